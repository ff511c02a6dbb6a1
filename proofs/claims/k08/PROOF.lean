import PyProof.Rows.All
import PySem.Challenge.RW_towerwise_k08_whole_all_tried
import HandS.ForMost
import HandS.TupAny
import HandS.TupMul
import HandS.Conv
import HandS.ForExc
import HandS.EndBits
import HandS.Wide
import HandS.IsInst
import HandS.Lambda
import HandS.EndTab
import HandS.ExcValue
import KE.KUnpack
import HandS.Deep
import HandS.Style
import HandS.Zip
import HandS.Replace
import HandS.RaiseMore
import KE.IntTextLaws
import HandS.ExcIs
import KE.KExcIs
import HandS.ExcField
import HandS.More
import HandS.SortInts
import HandS.ExcInit
import KE.KExcLine
import PyProof.Rows.StrOr
import HandS.TupLe
import KE.GoesEnum
import KE.SortData
import PyProof.Rows.SortWalk
import KE.DataFind
import KE.SortKeyHeap
import KE.KSortKey
import PyProof.SeqIndex
import KE.KDictPairs
import HandS.Star
import HandS.Flow
import HandS.SetFor
import HandS.Strs
import KE.KeyNested
set_option Elab.async false
set_option linter.all false
set_option maxRecDepth 100000
set_option maxHeartbeats 4000000
namespace Sm
open PySem PySem.Spec PyProof.Rows L2
def NewT (H : Hp) (Q : VK) (vs : List V) : Prop := ∀ (p : Addr) (o : Obj), H p = none → o.dict = none → Q (.ref p) (upd H p (.frz o (.tup vs)))
def NoD (K : PySem.W.Frag) (H : Hp) (a : Addr) : Prop := (∃ o u, H a = some (.frz o u) ∧ o.dict = none) ∨ ∃ o, K.lookup a = some o ∧ o.dict = none
section
variable {X : Cx} {pins : List (Addr × Obj)} {σ : L2.St} {H : Hp} {s : Shared}
theorem laidT {Q : VK} {h' : Heap} {tk : Nat} {us : List Value} {vs : List V} {p n : Nat} (I : Inv X pins σ H s) (kp : ∀ b o, s.heap.get? b = some o → h'.get? b = some o) (hp : s.heap.objs.size ≤ p)
    (ho : h'.get? p = some { cls := .type "tuple", data := .seq us.toArray n }) (rv : Vals vs us) (hz : vs.length ≤ sizeLine) (q : NewT H Q vs) : EP X pins σ Q (.ref p) { s with heap := h', toks := tk } :=
  ⟨.ref p, upd H p (.frz { cls := .type "tuple", data := .seq us.toArray n } (.tup vs)), I.laid (t' := tk) kp hp ⟨ho, hz, us, rv, _, ho, rfl, n, rfl⟩, rfl, q p _ (I.hok.fresh hp) rfl⟩
theorem laid1 {Q : VK} {us : List Value} {vs : List V} (I : Inv X pins σ H s) (rv : Vals vs us) (hz : vs.length ≤ sizeLine) (q : NewT H Q vs) :
    EP X pins σ Q (.ref s.heap.objs.size) { s with heap := s.heap.push { cls := .type "tuple", data := .seq us.toArray } } :=
  laidT (tk := s.toks) I (fun _ _ e => Heap.get?_push_of_some _ e) (Nat.le_refl _) (Heap.get?_push_size _ rfl) rv hz q
end
section
variable {X : Cx} {es : List Expr} {t : TA} {pos : Pos}
def tTupN (t : TA) : TE := fun σ H Q => t σ H fun xs H1 => xs.length ≤ sizeLine ∧ NewT H1 Q xs
theorem pe_tupN {x1 : Nat} (h : PA X es t) : PE X (.Tuple es x1 pos) (tTupN t) :=
  ⟨fun pins s σ H Q I hq => wpAny_Tuple_spliced (thn (h.run pos pins s σ H _ I hq) fun _ _ ⟨_, _, I1, r, z, q⟩ => ⟨r.length ▸ z, laid1 I1 r z q⟩)⟩
def rTupleN (K : PySem.W.Frag) : List V → Hp → VK → Prop := fun xs H Q => ∃ p ys, xs = [.ref p] ∧ ((SqL K H p ys ∧ NewT H Q ys) ∨ (SqT K H p ys ∧ Q (.ref p) H))
theorem call_tupleN : CallR X (.type "tuple") (rTupleN X.K) := by
  intro pins s σ H xs us Q I r h
  obtain ⟨p, ys, rfl, h⟩ := h
  rcases h with ⟨hq, q⟩ | h
  · obtain ⟨u, rfl, ru⟩ := vals1 r
    obtain rfl : u = Value.ref p := ru
    obtain ⟨its, rv, pl, hz⟩ := I.list hq
    exact call_tuple_list pl.isList (fun h' kp => laid1 (s := { s with heap := h' }) (I.kept (t' := s.toks) kp) rv hz q) (by rw [List.size_toArray, ← rv.length]; exact hz)
  · exact call_tuple_of pins s σ H _ us Q I r ⟨p, ys, rfl, .inr h⟩
def rSlN (K : PySem.W.Frag) : V → Option Int → Option Int → Hp → VK → Prop := fun x lo hi H Q => ∃ a xs, x = .ref a ∧ SqT K H a xs ∧
  (HT.sIx xs.length 0 lo = 0 ∧ HT.sIx xs.length xs.length hi = xs.length → Q (.ref a) H) ∧ (¬ (HT.sIx xs.length 0 lo = 0 ∧ HT.sIx xs.length xs.length hi = xs.length) → NewT H Q (cutV xs lo hi))
theorem sl_tupN : SlR X (rSlN X.K) := by
  intro pins s σ H x v vl vu lo hi sl Q I rx hs pl pu h
  obtain ⟨a, xs, rfl, hx, q1, q2⟩ := h
  by_cases hw : HT.sIx xs.length 0 lo = 0 ∧ HT.sIx xs.length xs.length hi = xs.length
  · exact sl_tupA pins s σ H _ v vl vu lo hi sl Q I rx hs pl pu ⟨a, xs, rfl, hx, q1, fun n => absurd hw n⟩
  · obtain rfl : v = Value.ref a := rx
    obtain ⟨us, rv, it, hz⟩ := I.tuple hx
    have hn : us.toArray.size = xs.length := List.size_toArray.trans rv.length.symm
    have hc : (cutV xs lo hi).length ≤ sizeLine := Nat.le_trans (cutV_length xs lo hi) hz
    refine ⟨"tuple", _, PyProof.Rows.slot_tuple_getitem.lookup, it.typeIs, HT.getItem_tuple_cut it hs pl pu (hn.symm ▸ hw) ?_ (hn.symm ▸ hz)⟩
    rw [hn]
    exact laid1 I ((rv.drop _).take _) hc (q2 hw)
def rCatN (K : PySem.W.Frag) : R2 := fun x y H Q => ∃ a b xs ys, x = .ref a ∧ y = .ref b ∧ SqT K H a xs ∧ SqT K H b ys ∧ xs.length + ys.length ≤ sizeLine ∧
  (xs = [] → Q (.ref b) H) ∧ (xs ≠ [] → ys = [] → Q (.ref a) H) ∧ (xs ≠ [] → ys ≠ [] → NewT H Q (xs ++ ys))
theorem op_catN : OpR X (binaryOp .Add) (rCatN X.K) := by
  intro pins s σ H x y v u Q I rx ry h
  obtain ⟨a, b, xs, ys, rfl, rfl, ha, hb, hz, q0, q1, q2⟩ := h
  by_cases c : xs ≠ [] ∧ ys ≠ []
  · obtain rfl : v = Value.ref a := rx
    obtain rfl : u = Value.ref b := ry
    obtain ⟨us, r1, p1, _⟩ := I.tuple ha
    obtain ⟨ws, r2, p2, _⟩ := I.tuple hb
    exact HT.cat_tup p1 p2 (fun e => c.1 (r1.nil_iff.mp e)) (fun e => absurd (r2.nil_iff.mp e) c.2) (fun _ => laid1 I (r1.append r2) (by rw [List.length_append]; exact hz) (q2 c.1 c.2)) (r1.length ▸ r2.length ▸ hz)
  · exact op_catA pins s σ H _ _ v u Q I rx ry ⟨a, b, xs, ys, rfl, rfl, ha, hb, hz, q0, q1, fun h1 h2 => absurd ⟨h1, h2⟩ c⟩
def rRepN (K : PySem.W.Frag) : R2 := fun x y H Q => ∃ l k xs, x = .ref l ∧ y = .int k ∧ SqT K H l xs ∧ xs ≠ [] ∧ 2 ≤ k ∧ k ≤ 1000 ∧ xs.length ≤ 1000 ∧ NewT H Q (List.replicate k.toNat xs).flatten
theorem op_repN : OpR X (binaryOp .Mult) (rRepN X.K) := by
  intro pins s σ H x y v u Q I rx ry h
  obtain ⟨l, k, xs, rfl, rfl, hT, hne, h1, h2, hz, q⟩ := h
  obtain rfl : v = Value.ref l := rx
  obtain ⟨tk, rfl⟩ := ry
  obtain ⟨us, rv, ⟨o, ho, hc, n, hd⟩, _⟩ := I.tuple hT
  obtain ⟨ocls, odict, odat, oslots⟩ := o
  obtain rfl : ocls = .type "tuple" := hc
  obtain rfl : odat = .seq us.toArray n := hd
  have hlen : us.length = xs.length := rv.length.symm
  have hemp : us.toArray.isEmpty = false := by
    cases us with
    | nil => exact absurd (rv.nil_iff.mp rfl) hne
    | cons _ _ => rfl
  have hsize : us.toArray.size = xs.length := List.size_toArray.trans hlen
  have hmul : ((us.toArray.size : Nat) : Int) * k ≤ 1000000 := by
    have := Int.mul_le_mul (show ((us.toArray.size : Nat) : Int) ≤ 1000 by omega) (show k ≤ 1000 from h2) (by omega) (by decide)
    omega
  have hall : k.toNat * xs.length ≤ 1000000 := Nat.le_trans (Nat.mul_le_mul (show k.toNat ≤ 1000 by omega) hz) (by decide)
  have hflat : (List.replicate k.toNat us).flatten.length ≤ sizeLine := by
    rw [PyProof.Rows.lm_len_rep_flat, hlen, sizeLine_eq]
    omega
  have b0 : (decide (k < -(2 ^ 63)) || decide (k ≥ 2 ^ 63)) = false := by simp; omega
  have b1 : (us.toArray.isEmpty || k == 1) = false := by
    rw [hemp]
    simp
    omega
  have b2 : (decide (k ≤ 0) || us.toArray.isEmpty) = false := by
    rw [hemp]
    simp
    omega
  have b4 : Builtin.Tuple.tupleTooMany (((us.toArray.size : Nat) : Int) * k) = false := by
    unfold Builtin.Tuple.tupleTooMany
    rw [sizeLine_eq, decide_eq_false_iff_not]
    omega
  have T0 : s.TypeIs (.ref l) "tuple" := ⟨_, ho, rfl⟩
  refine wpAny_binaryOp_repeat_ref (T := "tuple") (U := "int") (by decide) T0 (fun s' => typeIs_int s' k tk) noFill_tuple_mul PySem.F.fills_int_mul PySem.F.slot_int_rmul repeat_tuple PySem.F.slot_int_index.lookup
    (call_meets PySem.F.slot_int_rmul (typeIs_int s k tk) PySem.F.entry_int_rmul (PySem.F.args_int_rmul_2 _ _) (int_rmul_tuple k tk l us.toArray n odict oslots) ⟨ho, rfl, T0, ?_⟩)
  refine call_meets PySem.F.slot_tuple_mul T0 PySem.F.entry_tuple_mul (PySem.F.args_tuple_mul_2 _ _) (tuple_mulW l us.toArray n odict oslots k tk b0 b1 b2 (by omega) b4 (by rw [size_rep, List.size_toArray]; exact hflat)) ⟨ho, ?_⟩
  rw [size_rep]
  exact laid1 I (rv.rep k.toNat) (by rw [PyProof.Rows.lm_len_rep_flat, sizeLine_eq]; omega) q
variable {e : Expr} {te : L2.St → Hp → (Int → Int → Hp → Prop) → Prop}
end
end Sm
namespace Sm
open PySem PySem.Spec PyProof.Rows L2

abbrev St := L2.St
inductive Ty where
  | int | bool | str | tuple | list | dict | verr
  deriving DecidableEq
def Ty.name : Ty → String
  | .int => "int"
  | .bool => "bool"
  | .str => "str"
  | .tuple => "tuple"
  | .list => "list"
  | .dict => "dict"
  | .verr => "ValueError"
inductive D where
  | non | bl (b : Bool) | int (i : Int) | str (s : List Nat) | tup (l : List D) | lst (l : List D) | dic (l : List (D × D)) | ref (n : Nat) | exc (k : Nat) (l : List D) | cls (k : Nat) | ty (t : Ty) | fn
  deriving Inhabited
inductive Ob where
  | lst (fz : Bool) (l : List D)
  | dic (fz : Bool) (l : List (D × D))
  | arr (l : List D)
  | dar (ks : List (List Nat)) (l : List D)
  | ins (c : Nat) (ks : List (List Nat)) (l : List D)
  | tpl (l : List D)
  deriving Inhabited
mutual
def D.eqb : D → D → Bool
  | .non, .non => true
  | .bl a, .bl b => a == b
  | .int a, .int b => a == b
  | .str a, .str b => a == b
  | .tup a, .tup b => D.eqbL a b
  | .lst a, .lst b => D.eqbL a b
  | .dic a, .dic b => D.eqbP a b
  | .ref a, .ref b => a == b
  | .exc i a, .exc j b => i == j && D.eqbL a b
  | .cls a, .cls b => a == b
  | .ty a, .ty b => a == b
  | .fn, .fn => true
  | _, _ => false
def D.eqbL : List D → List D → Bool
  | [], [] => true
  | a :: l, b :: r => D.eqb a b && D.eqbL l r
  | _, _ => false
def D.eqbP : List (D × D) → List (D × D) → Bool
  | [], [] => true
  | (a, c) :: l, (b, d) :: r => D.eqb a b && (D.eqb c d && D.eqbP l r)
  | _, _ => false
end
mutual
theorem D.eqb_iff : ∀ a b : D, D.eqb a b = true ↔ a = b
  | .non, b => by cases b <;> simp [D.eqb]
  | .bl a, b => by cases b <;> simp [D.eqb]
  | .int a, b => by cases b <;> simp [D.eqb]
  | .str a, b => by cases b <;> simp [D.eqb]
  | .tup a, b => by
    cases b <;> simp [D.eqb]
    exact D.eqbL_iff a _
  | .lst a, b => by
    cases b <;> simp [D.eqb]
    exact D.eqbL_iff a _
  | .dic a, b => by
    cases b <;> simp [D.eqb]
    exact D.eqbP_iff a _
  | .ref a, b => by cases b <;> simp [D.eqb]
  | .exc i a, b => by
    cases b <;> simp [D.eqb]
    intro _
    exact D.eqbL_iff a _
  | .cls a, b => by cases b <;> simp [D.eqb]
  | .ty a, b => by cases b <;> simp [D.eqb]
  | .fn, b => by cases b <;> simp [D.eqb]
theorem D.eqbL_iff : ∀ a b : List D, D.eqbL a b = true ↔ a = b
  | [], b => by cases b <;> simp [D.eqbL]
  | a :: l, b => by
    cases b with
    | nil => simp [D.eqbL]
    | cons c r =>
      simp only [D.eqbL, Bool.and_eq_true, List.cons.injEq]
      rw [D.eqb_iff a c, D.eqbL_iff l r]
theorem D.eqbP_iff : ∀ a b : List (D × D), D.eqbP a b = true ↔ a = b
  | [], b => by cases b <;> simp [D.eqbP]
  | (a, c) :: l, b => by
    cases b with
    | nil => simp [D.eqbP]
    | cons e r =>
      obtain ⟨x, y⟩ := e
      simp only [D.eqbP, Bool.and_eq_true, List.cons.injEq, Prod.mk.injEq]
      rw [D.eqb_iff a x, D.eqb_iff c y, D.eqbP_iff l r, and_assoc]
end
instance : DecidableEq D := fun a b => decidable_of_iff (D.eqb a b = true) (D.eqb_iff a b)
def Ob.code : Ob → (Nat × Bool × Nat) × List D × List (D × D) × List (List Nat)
  | .lst f l => ((0, f, 0), l, [], [])
  | .dic f l => ((1, f, 0), [], l, [])
  | .arr l => ((2, false, 0), l, [], [])
  | .dar k l => ((3, false, 0), l, [], k)
  | .ins c k l => ((4, false, c), l, [], k)
  | .tpl l => ((5, false, 0), l, [], [])
theorem Ob.code_inj {a b : Ob} (h : a.code = b.code) : a = b := by
  cases a <;> cases b <;> simp [Ob.code] at h ⊢ <;> simp [h]
instance : DecidableEq Ob := fun a b => decidable_of_iff (a.code = b.code) ⟨Ob.code_inj, fun h => h ▸ rfl⟩
def Ob.live : Ob → Bool
  | .lst fz _ => !fz
  | .dic fz _ => !fz
  | .arr _ => true
  | .dar _ _ => true
  | .ins _ _ _ => true
  | .tpl _ => false
abbrev Sto := List Ob
abbrev Env := List (Option D)
inductive Res (α : Type) where
  | ok (a : α) (S : Sto)
  | ex (e : D) (S : Sto)
  | bad
def Res.bind {α β : Type} (r : Res α) (f : α → Sto → Res β) : Res β :=
  match r with
  | .ok a S => f a S
  | .ex e S => .ex e S
  | .bad => .bad
@[simp] theorem Res.bind_ok {α β : Type} (a : α) (S : Sto) (f : α → Sto → Res β) : (Res.ok a S).bind f = f a S := rfl
@[simp] theorem Res.bind_ex {α β : Type} (e : D) (S : Sto) (f : α → Sto → Res β) : (Res.ex e S : Res α).bind f = .ex e S := rfl
@[simp] theorem Res.bind_bad {α β : Type} (f : α → Sto → Res β) : (Res.bad : Res α).bind f = .bad := rfl
inductive SR where
  | nx (σ : Env) (S : Sto)
  | rt (d : D) (S : Sto)
  | bk (σ : Env) (S : Sto)
  | ct (σ : Env) (S : Sto)
  | ex (e : D) (σ : Env) (S : Sto)
  | bad
def Res.thn {α : Type} (r : Res α) (σ : Env) (f : α → Sto → SR) : SR :=
  match r with
  | .ok a S => f a S
  | .ex e S => .ex e σ S
  | .bad => .bad
@[simp] theorem Res.thn_ok {α : Type} (a : α) (S : Sto) (σ : Env) (f : α → Sto → SR) : (Res.ok a S).thn σ f = f a S := rfl
def SR.seq (r : SR) (f : Env → Sto → SR) : SR :=
  match r with
  | .nx σ S => f σ S
  | .rt d S => .rt d S
  | .bk σ S => .bk σ S
  | .ct σ S => .ct σ S
  | .ex e σ S => .ex e σ S
  | .bad => .bad
@[simp] theorem SR.seq_nx (σ : Env) (S : Sto) (f : Env → Sto → SR) : (SR.nx σ S).seq f = f σ S := rfl
@[simp] theorem SR.seq_rt (d : D) (S : Sto) (f : Env → Sto → SR) : (SR.rt d S).seq f = .rt d S := rfl

structure Lm where
  cls : Nat → Addr
  fld : Nat → List Str
  fn : Option Addr := none
  caps : List (Env × L2.St) := []
  codes : List (Addr × Str) := []
  tabs : List (Addr × Str) := []
  arr : Bool := false
structure Sg where
  H : Hp
  S : Sto
  R : List Addr
  G : List Addr
def Sg.ow (z : Sg) (a : Addr) : Prop := (∃ (n : Nat) (o : Ob), z.S[n]? = some o ∧ o.live = true ∧ z.R[n]? = some a) ∨ a ∈ z.G

def tkey (s : List Nat) : Key := .inr ⟨s.toArray⟩
def dkey : D → Option Key
  | .int i => some (.inl i)
  | .str s => some (.inr ⟨s.toArray⟩)
  | _ => none
def EXO (a : Addr) (c : Addr) (d : Option Addr) : HO := .ext fun h => ∃ (oe : Obj) (vs : Array Value), h.get? a = some oe ∧ Zc (.ref c) d oe ∧ oe.data = .fields vs
def XFld (M : Lm) (H : Hp) (k : Nat) (d : Option Addr) (vs : List V) : Prop := (vs = [] ∧ d = none) ∨ ∃ dd, vs ≠ [] ∧ d = some dd ∧ H dd = some (.xd ((M.fld k).zip vs))

def KL (K : PySem.W.Frag) (a : Addr) (vs : List V) : Prop := ∃ (its : Array Value) (n : Nat), K.lookup a = some { cls := .type "list", data := .seq its n } ∧ its.size ≤ sizeLine ∧ Vals vs its.toList
def Rl (K : PySem.W.Frag) (H : Hp) (a : Addr) (vs : List V) : Prop := Rd H a (.lst vs) ∨ KL K a vs
theorem Rl.sq {K : PySem.W.Frag} {H : Hp} {a : Addr} {vs : List V} (h : Rl K H a vs) : SqL K H a vs := by
  rcases h with h | ⟨its, n, h1, h2, h3⟩
  · exact .inl h
  · exact .inr ⟨_, its, n, h1, rfl, rfl, rfl, h2, h3⟩
def RL (K : PySem.W.Frag) (H : Hp) (ow : Addr → Prop) (a : Addr) (vs : List V) : Prop := (Rd H a (.lst vs) ∧ ¬ ow a) ∨ KL K a vs
theorem RL.rl {K : PySem.W.Frag} {H : Hp} {ow : Addr → Prop} {a : Addr} {vs : List V} (h : RL K H ow a vs) : Rl K H a vs := h.imp (·.1) id
def headNo : List D → Bool
  | .tup _ :: _ => false
  | _ => true
def Lent (M : Lm) (l : List D) : Prop := l.length = 2 ∧ (M.fld 1000000 ≠ [] ∨ headNo l = true)
section
variable (K : PySem.W.Frag) (M : Lm)
mutual
inductive Enc (H : Hp) (ow : Addr → Prop) : D → V → Prop
  | non : Enc H ow .non .non
  | bl (b : Bool) : Enc H ow (.bl b) (.bl b)
  | int (i : Int) : Enc H ow (.int i) (.int i)
  | str (s : List Nat) : Enc H ow (.str s) (.str ⟨s.toArray⟩)
  | tup {a : Addr} {l : List D} {vs : List V} : SqT K H a vs → (NoD K H a ∨ Lent M l) → EncL H ow l vs → Enc H ow (.tup l) (.ref a)
  | lst {a : Addr} {l : List D} {vs : List V} : RL K H ow a vs → EncL H ow l vs → Enc H ow (.lst l) (.ref a)
  | dic {a : Addr} {l : List (D × D)} {kvs : List (Key × V)} : H a = some (.dK kvs) → ¬ ow a → EncP H ow l kvs → Enc H ow (.dic l) (.ref a)
  | exc {a : Addr} {k : Nat} {l : List D} {d : Option Addr} {vs : List V} : H a = some (EXO a (M.cls k) d) → ¬ ow a → XFld M H k d vs → EncL H ow l vs → Enc H ow (.exc k l) (.ref a)
  | cls (k : Nat) : Enc H ow (.cls k) (.ref (M.cls k))
  | ty (t : Ty) : Enc H ow (.ty t) (.ty t.name)
inductive EncL (H : Hp) (ow : Addr → Prop) : List D → List V → Prop
  | nil : EncL H ow [] []
  | cons {d : D} {v : V} {l : List D} {vs : List V} : Enc H ow d v → EncL H ow l vs → EncL H ow (d :: l) (v :: vs)
inductive EncP (H : Hp) (ow : Addr → Prop) : List (D × D) → List (Key × V) → Prop
  | nil : EncP H ow [] []
  | cons {k d : D} {q : Key} {v : V} {l : List (D × D)} {vs : List (Key × V)} : dkey k = some q → Enc H ow d v → EncP H ow l vs → EncP H ow ((k, d) :: l) ((q, v) :: vs)
end
end

def Solid (H : Hp) (a : Addr) : Prop := ∃ o, H a = some o ∧ ∀ ps, o ≠ .tbl ps
structure Mv (H H' : Hp) (ow ow' : Addr → Prop) : Prop where
  keep : ∀ a o, H a = some o → ¬ ow a → (∀ ps, o ≠ .tbl ps) → H' a = some o
  nw : ∀ a, Solid H a → ¬ ow a → ¬ ow' a
  tup : ∀ a xs, H a = some (.tup xs) → H' a = some (.tup xs)
  frz : ∀ a o u, H a = some (.frz o u) → H' a = some (.frz o u)
  xds : ∀ a fs, H a = some (.xd fs) → H' a = some (.xd fs)

section
variable {K : PySem.W.Frag} {M : Lm}
theorem Mv.sqT {H H' : Hp} {ow ow' : Addr → Prop} (m : Mv H H' ow ow') {a : Addr} {xs : List V} (h : SqT K H a xs) : SqT K H' a xs := by
  rcases h with (h | ⟨o, h⟩) | h
  · exact .inl (.inl (m.tup _ _ h))
  · exact .inl (.inr ⟨o, m.frz _ _ _ h⟩)
  · exact .inr h
theorem Mv.rd {H H' : Hp} {ow ow' : Addr → Prop} (m : Mv H H' ow ow') {a : Addr} {u : HO} (h : Rd H a u) (n : ¬ ow a) (t : ∀ ps, u ≠ .tbl ps) : Rd H' a u ∧ ¬ ow' a := by
  rcases h with h | ⟨o, h⟩
  · exact ⟨.inl (m.keep _ _ h n t), m.nw _ ⟨_, h, t⟩ n⟩
  · exact ⟨.inr ⟨o, m.frz _ _ _ h⟩, m.nw _ ⟨_, h, fun ps z => nomatch z⟩ n⟩
theorem Mv.rl {H H' : Hp} {ow ow' : Addr → Prop} (m : Mv H H' ow ow') {a : Addr} {vs : List V} (h : RL K H ow a vs) : RL K H' ow' a vs := h.imp (fun h => m.rd h.1 h.2 fun ps z => nomatch z) id
theorem Mv.nod {H H' : Hp} {ow ow' : Addr → Prop} (m : Mv H H' ow ow') {a : Addr} (h : NoD K H a) : NoD K H' a :=
  h.imp (fun ⟨o, u, e, n⟩ => ⟨o, u, m.frz _ _ _ e, n⟩) id
mutual
theorem Enc.mv {H H' : Hp} {ow ow' : Addr → Prop} (m : Mv H H' ow ow') : ∀ {d : D} {v : V}, Enc K M H ow d v → Enc K M H' ow' d v
  | _, _, .non => .non
  | _, _, .bl b => .bl b
  | _, _, .int i => .int i
  | _, _, .str s => .str s
  | _, _, .tup h n e => .tup (m.sqT h) (n.imp m.nod id) (EncL.mv m e)
  | _, _, .lst h e => .lst (m.rl h) (EncL.mv m e)
  | _, _, .dic h n e => .dic (m.keep _ _ h n fun ps z => nomatch z) (m.nw _ ⟨_, h, fun ps z => nomatch z⟩ n) (EncP.mv m e)
  | _, _, .exc h n x e => .exc (m.keep _ _ h n (fun ps z => by unfold EXO at z; cases z)) (m.nw _ ⟨_, h, fun ps z => by unfold EXO at z; cases z⟩ n) (x.elim .inl fun ⟨d2, h1, h2, h3⟩ => .inr ⟨d2, h1, h2, m.xds _ _ h3⟩) (EncL.mv m e)
  | _, _, .cls k => .cls k
  | _, _, .ty t => .ty t
theorem EncL.mv {H H' : Hp} {ow ow' : Addr → Prop} (m : Mv H H' ow ow') : ∀ {l : List D} {vs : List V}, EncL K M H ow l vs → EncL K M H' ow' l vs
  | _, _, .nil => .nil
  | _, _, .cons h t => .cons (Enc.mv m h) (EncL.mv m t)
theorem EncP.mv {H H' : Hp} {ow ow' : Addr → Prop} (m : Mv H H' ow ow') : ∀ {l : List (D × D)} {vs : List (Key × V)}, EncP K M H ow l vs → EncP K M H' ow' l vs
  | _, _, .nil => .nil
  | _, _, .cons q h t => .cons q (Enc.mv m h) (EncP.mv m t)
end

inductive EncA (K : PySem.W.Frag) (M : Lm) (z : Sg) : D → V → Prop
  | ref {n : Nat} {a : Addr} : z.R[n]? = some a → n < z.S.length → EncA K M z (.ref n) (.ref a)
  | of {d : D} {v : V} : Enc K M z.H z.ow d v → EncA K M z d v
  | fn {a : Addr} : M.fn = some a → EncA K M z .fn (.ref a)
def EnvOk (K : PySem.W.Frag) (M : Lm) (z : Sg) (env : Env) (σ : St) : Prop :=
  env.length = σ.length ∧ ∀ (i : Nat) (d : D), env[i]? = some (some d) → ∃ v, σ[i]? = some (some v) ∧ EncA K M z d v
structure Aux (K : PySem.W.Frag) (M : Lm) (z : Sg) : Prop where
  tab : LamX.Tabs M.tabs z.H
  cap : ∀ p ∈ M.caps, EnvOk K M z p.1 p.2
  code : ∀ p ∈ M.codes, z.H p.1 = some (LamX.CodeO p.1 p.2) ∧ ¬ z.ow p.1
inductive EncAs (K : PySem.W.Frag) (M : Lm) (z : Sg) : List D → List V → Prop
  | nil : EncAs K M z [] []
  | cons {d : D} {v : V} {l : List D} {vs : List V} : EncA K M z d v → EncAs K M z l vs → EncAs K M z (d :: l) (v :: vs)
def ObE (K : PySem.W.Frag) (M : Lm) (z : Sg) (a : Addr) : Ob → Prop
  | .lst _ l => ∃ vs, z.H a = some (.lst vs) ∧ EncL K M z.H z.ow l vs
  | .dic _ l => ∃ kvs, z.H a = some (.dK kvs) ∧ EncP K M z.H z.ow l kvs
  | .arr l => (M.arr = true ∧ ∀ d ∈ l, d ≠ .fn) ∧ ∃ vs, z.H a = some (.lst vs) ∧ EncAs K M z l vs
  | .dar ks l => (M.arr = true ∧ (∀ d ∈ l, d ≠ .fn) ∧ ks.length = l.length) ∧ ∃ vs, z.H a = some (.dK ((ks.map tkey).zip vs)) ∧ EncAs K M z l vs
  | .ins c ks l => ks.length = l.length ∧ ∃ dx vs, z.H a = some (.ins (M.cls c) dx ((ks.map fun s => (⟨s.toArray⟩ : Str)).zip vs)) ∧ EncL K M z.H z.ow l vs
  | .tpl l => ((∀ d ∈ l, d ≠ .fn) ∧ ∀ m : Nat, z.R[m]? = some a → ∀ k, D.ref k ∈ l → k < m) ∧ ∃ vs, z.H a = some (.tup vs) ∧ EncAs K M z l vs
structure SOk (K : PySem.W.Frag) (M : Lm) (z : Sg) : Prop where
  len : z.R.length = z.S.length
  nd : z.R.Nodup
  gR : ∀ g ∈ z.G, g ∉ z.R
  gT : ∀ g ∈ z.G, ∃ o, z.H g = some o ∧ ((∃ xs, o = .lst xs) ∨ ∃ kvs, o = .dK kvs)
  obj : ∀ (n : Nat) (o : Ob) (a : Addr), z.S[n]? = some o → z.R[n]? = some a → ObE K M z a o
  aux : Aux K M z
structure Ext (z z' : Sg) : Prop where
  keep : ∀ a o, z.H a = some o → ¬ z.ow a → (∀ ps, o ≠ .tbl ps) → z'.H a = some o
  nw : ∀ a, Solid z.H a → ¬ z.ow a → ¬ z'.ow a
  tup : ∀ a xs, z.H a = some (.tup xs) → z'.H a = some (.tup xs)
  frz : ∀ a o u, z.H a = some (.frz o u) → z'.H a = some (.frz o u)
  xds : ∀ a fs, z.H a = some (.xd fs) → z'.H a = some (.xd fs)
  pre : ∃ T, z'.R = z.R ++ T
  grow : z.S.length ≤ z'.S.length
  gh : z'.G = z.G
  gk : ∀ g ∈ z.G, z'.H g = z.H g
variable {K : PySem.W.Frag} {M : Lm} {z z' z'' : Sg}
theorem Ext.mv (e : Ext z z') : Mv z.H z'.H z.ow z'.ow := ⟨e.keep, e.nw, e.tup, e.frz, e.xds⟩
theorem Ext.refl (z : Sg) : Ext z z := ⟨fun _ _ h _ _ => h, fun _ _ h => h, fun _ _ h => h, fun _ _ _ h => h, fun _ _ h => h, ⟨[], (List.append_nil _).symm⟩, Nat.le_refl _, rfl, fun _ _ => rfl⟩
theorem Ext.trans (e : Ext z z') (f : Ext z' z'') : Ext z z'' where
  keep := fun a o h n t => f.keep a o (e.keep a o h n t) (e.nw a ⟨_, h, t⟩ n) t
  nw := fun a h n => f.nw a (let ⟨o, q, t⟩ := h; ⟨o, e.keep a o q n t, t⟩) (e.nw a h n)
  tup := fun a xs h => f.tup a xs (e.tup a xs h)
  frz := fun a o u h => f.frz a o u (e.frz a o u h)
  xds := fun a fs h => f.xds a fs (e.xds a fs h)
  pre := by
    obtain ⟨T, h⟩ := e.pre
    obtain ⟨T', h'⟩ := f.pre
    exact ⟨T ++ T', by rw [h', h, List.append_assoc]⟩
  grow := Nat.le_trans e.grow f.grow
  gh := f.gh.trans e.gh
  gk := fun g hg => (f.gk g (by rw [e.gh]; exact hg)).trans (e.gk g hg)
theorem Ext.rAt (e : Ext z z') {n : Nat} {a : Addr} (h : z.R[n]? = some a) : z'.R[n]? = some a := by
  obtain ⟨T, q⟩ := e.pre
  have hl : n < z.R.length := (List.getElem?_eq_some_iff.mp h).1
  rw [q, List.getElem?_append_left hl]
  exact h
theorem EncA.mvR {z z' : Sg} (m : Mv z.H z'.H z.ow z'.ow) (r : ∃ T, z'.R = z.R ++ T) (l : z.S.length ≤ z'.S.length) {d : D} {v : V} (h : EncA K M z d v) : EncA K M z' d v := by
  cases h with
  | ref h1 h2 =>
    refine .ref ?_ (Nat.lt_of_lt_of_le h2 l)
    obtain ⟨T, q⟩ := r
    rw [q, List.getElem?_append_left (List.getElem?_eq_some_iff.mp h1).1]
    exact h1
  | of h => exact .of (h.mv m)
  | fn e => exact .fn e
theorem EnvOk.mvR {z z' : Sg} (m : Mv z.H z'.H z.ow z'.ow) (r : ∃ T, z'.R = z.R ++ T) (l : z.S.length ≤ z'.S.length) {env : Env} {σ : St} (h : EnvOk K M z env σ) : EnvOk K M z' env σ :=
  ⟨h.1, fun i d q => let ⟨v, h1, h2⟩ := h.2 i d q; ⟨v, h1, h2.mvR m r l⟩⟩
theorem EncA.ext (e : Ext z z') {d : D} {v : V} (h : EncA K M z d v) : EncA K M z' d v := h.mvR e.mv e.pre e.grow
theorem Aux.mvR {z z' : Sg} (x : Aux K M z) (m : Mv z.H z'.H z.ow z'.ow) (r : ∃ T, z'.R = z.R ++ T) (l : z.S.length ≤ z'.S.length) (t : LamX.Tabs M.tabs z'.H) : Aux K M z' :=
  ⟨t, fun p hp => (x.cap p hp).mvR m r l, fun p hp => ⟨m.keep _ _ (x.code p hp).1 (x.code p hp).2 LamX.codeO_ne, m.nw _ ⟨_, (x.code p hp).1, LamX.codeO_ne⟩ (x.code p hp).2⟩⟩
theorem Aux.ext (x : Aux K M z) (e : Ext z z') (t : LamX.Tabs M.tabs z'.H) : Aux K M z' := x.mvR e.mv e.pre e.grow t
theorem tabs_mv {T : List (Addr × Str)} {H H' : Hp} (t : LamX.Tabs T H) (e : ∀ b o, H b = some o → ((∃ ps, o = .tbl ps) ∨ ∃ φ, o = .ext φ) → H' b = some o) : LamX.Tabs T H' := fun p hp => by
  obtain ⟨ps, h1, h2, h3⟩ := t p hp
  refine ⟨ps, e _ _ h1 (.inl ⟨ps, rfl⟩), h2, fun pos cv hc => ?_⟩
  obtain ⟨c, e1, e2⟩ := h3 pos cv hc
  exact ⟨c, e1, e _ _ e2 (.inr ⟨_, rfl⟩)⟩
theorem tabs_put {T : List (Addr × Str)} {H : Hp} {p : Addr} {o : HO} (t : LamX.Tabs T H) (np : H p = none) : LamX.Tabs T (upd H p o) := tabs_mv t fun b u h _ => by
  rw [upd_ne (ne_of_none h np)]
  exact h
theorem tabs_wr {T : List (Addr × Str)} {H : Hp} {p : Addr} {o u : HO} (t : LamX.Tabs T H) (hp : H p = some u) (hu : (∃ xs, u = .lst xs) ∨ (∃ kvs, u = .dK kvs) ∨ ∃ C dx fs, u = .ins C dx fs) : LamX.Tabs T (upd H p o) := tabs_mv t fun b w h hw => by
  by_cases e : b = p
  · subst e
    rw [hp] at h
    cases h
    rcases hu with ⟨xs, rfl⟩ | ⟨xs, rfl⟩ | ⟨C, dx, xs, rfl⟩ <;> rcases hw with ⟨q, z⟩ | ⟨q, z⟩ <;> cases z
  · rw [upd_ne e]
    exact h
theorem EncA.enc {d : D} {v : V} (h : EncA K M z d v) (n : ∀ k, d ≠ .ref k) (c : d ≠ .fn) : Enc K M z.H z.ow d v := by
  cases h with
  | ref h l => exact absurd rfl (n _)
  | of h => exact h
  | fn e => exact absurd rfl c
theorem EnvOk.ext (e : Ext z z') {env : Env} {σ : St} (h : EnvOk K M z env σ) : EnvOk K M z' env σ :=
  ⟨h.1, fun i d q => let ⟨v, h1, h2⟩ := h.2 i d q; ⟨v, h1, h2.ext e⟩⟩
theorem EnvOk.set {env : Env} {σ : St} (h : EnvOk K M z env σ) (i : Nat) {d : D} {v : V} (q : EncA K M z d v) : EnvOk K M z (env.set i (some d)) (σ.set i (some v)) := by
  refine ⟨by rw [List.length_set, List.length_set]; exact h.1, fun j d' e => ?_⟩
  by_cases hj : j = i
  · subst hj
    have hl : j < env.length := by
      have := (List.getElem?_eq_some_iff.mp e).1
      rw [List.length_set] at this
      exact this
    rw [List.getElem?_set_self hl] at e
    have e' : d = d' := Option.some.inj (Option.some.inj e)
    subst e'
    exact ⟨v, List.getElem?_set_self (by rw [← h.1]; exact hl), q⟩
  · rw [List.getElem?_set_ne (Ne.symm hj)] at e
    obtain ⟨v', h1, h2⟩ := h.2 j d' e
    exact ⟨v', by rw [List.getElem?_set_ne (Ne.symm hj)]; exact h1, h2⟩
theorem EncAs.ext (e : Ext z z') : ∀ {l : List D} {vs : List V}, EncAs K M z l vs → EncAs K M z' l vs
  | _, _, .nil => .nil
  | _, _, .cons h t => .cons (h.ext e) (EncAs.ext e t)
theorem EncAs.mvR {z z' : Sg} (m : Mv z.H z'.H z.ow z'.ow) (r : ∃ T, z'.R = z.R ++ T) (l0 : z.S.length ≤ z'.S.length) : ∀ {l : List D} {vs : List V}, EncAs K M z l vs → EncAs K M z' l vs
  | _, _, .nil => .nil
  | _, _, .cons h t => .cons (h.mvR m r l0) (EncAs.mvR m r l0 t)
theorem EncAs.length : ∀ {l : List D} {vs : List V}, EncAs K M z l vs → l.length = vs.length
  | _, _, .nil => rfl
  | _, _, .cons _ t => by rw [List.length_cons, List.length_cons, EncAs.length t]
theorem EncL.length {H : Hp} {ow : Addr → Prop} : ∀ {l : List D} {vs : List V}, EncL K M H ow l vs → l.length = vs.length
  | _, _, .nil => rfl
  | _, _, .cons _ t => by rw [List.length_cons, List.length_cons, EncL.length t]
theorem EncL.get {H : Hp} {ow : Addr → Prop} : ∀ {l : List D} {vs : List V} {i : Nat} {d : D}, EncL K M H ow l vs → l[i]? = some d → ∃ v, vs[i]? = some v ∧ Enc K M H ow d v
  | _, _, _, _, .nil, e => by simp at e
  | _, _, 0, _, .cons h _, e => by
    simp at e
    subst e
    exact ⟨_, rfl, h⟩
  | _, _, i + 1, d, .cons _ t, e => by
    obtain ⟨v, h1, h2⟩ := EncL.get (i := i) (d := d) t (by simpa using e)
    exact ⟨v, by simpa using h1, h2⟩
theorem EncL.app {H : Hp} {ow : Addr → Prop} : ∀ {l r : List D} {vs us : List V}, EncL K M H ow l vs → EncL K M H ow r us → EncL K M H ow (l ++ r) (vs ++ us)
  | _, _, _, _, .nil, s => s
  | _, _, _, _, .cons h t, s => .cons h (EncL.app t s)
theorem EncL.one {H : Hp} {ow : Addr → Prop} {d : D} {v : V} (h : Enc K M H ow d v) : EncL K M H ow [d] [v] := .cons h .nil
theorem EncL.take {H : Hp} {ow : Addr → Prop} : ∀ {l : List D} {vs : List V} (n : Nat), EncL K M H ow l vs → EncL K M H ow (l.take n) (vs.take n)
  | _, _, 0, _ => .nil
  | _, _, _ + 1, .nil => .nil
  | _, _, n + 1, .cons h t => .cons h (EncL.take n t)
theorem EncL.drop {H : Hp} {ow : Addr → Prop} : ∀ {l : List D} {vs : List V} (n : Nat), EncL K M H ow l vs → EncL K M H ow (l.drop n) (vs.drop n)
  | _, _, 0, h => h
  | _, _, _ + 1, .nil => .nil
  | _, _, n + 1, .cons _ t => EncL.drop n t
theorem EncL.set {H : Hp} {ow : Addr → Prop} {d : D} {v : V} (q : Enc K M H ow d v) : ∀ {l : List D} {vs : List V} (n : Nat), EncL K M H ow l vs → EncL K M H ow (l.set n d) (vs.set n v)
  | _, _, _, .nil => .nil
  | _, _, 0, .cons _ t => .cons q t
  | _, _, n + 1, .cons h t => .cons h (EncL.set q n t)
theorem EncL.rev {H : Hp} {ow : Addr → Prop} : ∀ {l : List D} {vs : List V}, EncL K M H ow l vs → EncL K M H ow l.reverse vs.reverse
  | _, _, .nil => .nil
  | _, _, .cons h t => by
    rw [List.reverse_cons, List.reverse_cons]
    exact (EncL.rev t).app (EncL.one h)
def Sg.put (z : Sg) (p : Addr) (o : HO) : Sg := { z with H := upd z.H p o }
theorem ext_put {p : Addr} {o : HO} (np : z.H p = none) (k : SOk K M z) : Ext z (z.put p o) where
  keep := fun a u h _ _ => by
    show upd z.H p o a = some u
    rw [upd_ne (ne_of_none h np)]
    exact h
  nw := fun a _ n => n
  tup := fun a xs h => by
    show upd z.H p o a = _
    rw [upd_ne (ne_of_none h np)]
    exact h
  frz := fun a u w h => by
    show upd z.H p o a = _
    rw [upd_ne (ne_of_none h np)]
    exact h
  xds := fun a fs h => by
    show upd z.H p o a = _
    rw [upd_ne (ne_of_none h np)]
    exact h
  pre := ⟨[], (List.append_nil _).symm⟩
  grow := Nat.le_refl _
  gh := rfl
  gk := fun g hg => by
    show upd z.H p o g = z.H g
    obtain ⟨xs, h, _⟩ := k.gT g hg
    rw [upd_ne (ne_of_none h np)]
theorem ObE.mvR {z z' : Sg} (m : Mv z.H z'.H z.ow z'.ow) (r : ∃ T, z'.R = z.R ++ T) (l0 : z.S.length ≤ z'.S.length) {a : Addr} (kp : ∀ w, z.H a = some w → z'.H a = some w) (rb : ∀ m : Nat, z'.R[m]? = some a → z.R[m]? = some a) {u : Ob} (q : ObE K M z a u) : ObE K M z' a u := by
  cases u with
  | lst fz l =>
    obtain ⟨vs, h, e⟩ := q
    exact ⟨vs, kp _ h, e.mv m⟩
  | dic fz l =>
    obtain ⟨vs, h, e⟩ := q
    exact ⟨vs, kp _ h, e.mv m⟩
  | arr l =>
    obtain ⟨ha, vs, h, e⟩ := q
    exact ⟨ha, vs, kp _ h, e.mvR m r l0⟩
  | dar ks l =>
    obtain ⟨ha, vs, h, e⟩ := q
    exact ⟨ha, vs, kp _ h, e.mvR m r l0⟩
  | ins c ks l =>
    obtain ⟨hl, dx, vs, h, e⟩ := q
    exact ⟨hl, dx, vs, kp _ h, e.mv m⟩
  | tpl l =>
    obtain ⟨⟨nf, hr⟩, vs, h, e⟩ := q
    exact ⟨⟨nf, fun m hm => hr m (rb m hm)⟩, vs, kp _ h, e.mvR m r l0⟩
theorem sok_put {p : Addr} {o : HO} (np : z.H p = none) (k : SOk K M z) : SOk K M (z.put p o) where
  len := k.len
  nd := k.nd
  gR := k.gR
  gT := fun g hg => by
    obtain ⟨xs, h, h2⟩ := k.gT g hg
    exact ⟨xs, ((ext_put (o := o) np k).gk g hg).trans h, h2⟩
  aux := k.aux.ext (ext_put np k) (tabs_put k.aux.tab np)
  obj := fun n u a h1 h2 => by
    have q := k.obj n u a h1 h2
    have m := (ext_put (o := o) np k).mv
    have ne : ∀ w, z.H a = some w → (z.put p o).H a = some w := fun w h => by
      show upd z.H p o a = _
      rw [upd_ne (ne_of_none h np)]
      exact h
    cases u with
    | lst fz l =>
      obtain ⟨vs, h, e⟩ := q
      exact ⟨vs, ne _ h, e.mv m⟩
    | dic fz l =>
      obtain ⟨vs, h, e⟩ := q
      exact ⟨vs, ne _ h, e.mv m⟩
    | arr l =>
      obtain ⟨ha, vs, h, e⟩ := q
      exact ⟨ha, vs, ne _ h, e.ext (ext_put (o := o) np k)⟩
    | dar ks l =>
      obtain ⟨ha, vs, h, e⟩ := q
      exact ⟨ha, vs, ne _ h, e.ext (ext_put (o := o) np k)⟩
    | ins c ks l => exact ObE.mvR m (ext_put (o := o) np k).pre (ext_put (o := o) np k).grow ne (fun _ h => h) q
    | tpl l => exact ObE.mvR m (ext_put (o := o) np k).pre (ext_put (o := o) np k).grow ne (fun _ h => h) q
theorem now_put {p : Addr} {o : HO} (np : z.H p = none) (k : SOk K M z) : ¬ (z.put p o).ow p := by
  rintro (⟨n, u, h1, _, h2⟩ | h)
  · have q := k.obj n u p h1 h2
    cases u with
    | lst fz l =>
      obtain ⟨vs, h, e⟩ := q
      rw [np] at h
      cases h
    | dic fz l =>
      obtain ⟨vs, h, e⟩ := q
      rw [np] at h
      cases h
    | arr l =>
      obtain ⟨_, vs, h, e⟩ := q
      rw [np] at h
      cases h
    | dar ks l =>
      obtain ⟨_, vs, h, e⟩ := q
      rw [np] at h
      cases h
    | ins c ks l =>
      obtain ⟨_, dx, vs, h, e⟩ := q
      rw [np] at h
      cases h
    | tpl l =>
      obtain ⟨_, vs, h, e⟩ := q
      rw [np] at h
      cases h
  · obtain ⟨xs, e, _⟩ := k.gT p h
    rw [np] at e
    cases e
theorem at_put {p : Addr} {o : HO} : (z.put p o).H p = some o := upd_same
end
end Sm
namespace Sm
open PySem PySem.Spec PyProof.Rows L2
section
variable {K : PySem.W.Frag} {M : Lm} {z z' z'' : Sg}
def Sg.push (z : Sg) (p : Addr) (o : HO) (b : Ob) : Sg := { H := upd z.H p o, S := z.S ++ [b], R := z.R ++ [p], G := z.G }
theorem ow_push {p : Addr} {o : HO} {b : Ob} (k : SOk K M z) (a : Addr) (h : (z.push p o b).ow a) : z.ow a ∨ a = p := by
  rcases h with ⟨n, u, h1, h2, h3⟩ | h
  · have h1' : (z.S ++ [b])[n]? = some u := h1
    have h3' : (z.R ++ [p])[n]? = some a := h3
    by_cases hn : n < z.S.length
    · rw [List.getElem?_append_left hn] at h1'
      rw [List.getElem?_append_left (by rw [k.len]; exact hn)] at h3'
      exact .inl (.inl ⟨n, u, h1', h2, h3'⟩)
    · rw [List.getElem?_append_right (by rw [k.len]; omega)] at h3'
      have : a ∈ [p] := List.mem_of_getElem? h3'
      exact .inr (by simpa using this)
  · exact .inl (.inr h)
theorem ext_push {p : Addr} {o : HO} {b : Ob} (np : z.H p = none) (k : SOk K M z) : Ext z (z.push p o b) where
  keep := (ext_put (o := o) np k).keep
  nw := fun a h n q => by
    rcases ow_push k a q with q | q
    · exact n q
    · obtain ⟨w, e, _⟩ := h
      rw [q, np] at e
      cases e
  tup := (ext_put (o := o) np k).tup
  frz := (ext_put (o := o) np k).frz
  xds := (ext_put (o := o) np k).xds
  pre := ⟨[p], rfl⟩
  grow := by
    show z.S.length ≤ (z.S ++ [b]).length
    rw [List.length_append]
    exact Nat.le_add_right _ _
  gh := rfl
  gk := (ext_put (o := o) np k).gk
theorem not_R (np : z.H p = none) (k : SOk K M z) : p ∉ z.R := fun h => by
  obtain ⟨n, hn, e⟩ := List.getElem_of_mem h
  have hs : n < z.S.length := by rw [← k.len]; exact hn
  have q := k.obj n _ p (List.getElem?_eq_getElem hs) (by rw [List.getElem?_eq_getElem hn, e])
  cases hu : z.S[n] with
  | lst fz l =>
    rw [hu] at q
    obtain ⟨vs, h, _⟩ := q
    rw [np] at h
    cases h
  | dic fz l =>
    rw [hu] at q
    obtain ⟨vs, h, _⟩ := q
    rw [np] at h
    cases h
  | arr l =>
    rw [hu] at q
    obtain ⟨_, vs, h, _⟩ := q
    rw [np] at h
    cases h
  | dar ks l =>
    rw [hu] at q
    obtain ⟨_, vs, h, _⟩ := q
    rw [np] at h
    cases h
  | ins c ks l =>
    rw [hu] at q
    obtain ⟨_, dx, vs, h, _⟩ := q
    rw [np] at h
    cases h
  | tpl l =>
    rw [hu] at q
    obtain ⟨_, vs, h, _⟩ := q
    rw [np] at h
    cases h
theorem push_back {R : List Addr} {p a : Addr} {n j : Nat} (hp : p ∉ R) (hn : R[n]? = some a) (hj : (R ++ [p])[j]? = some a) : R[j]? = some a := by
  by_cases c : j < R.length
  · rwa [List.getElem?_append_left c] at hj
  · rw [List.getElem?_append_right (by omega)] at hj
    have e1 : a ∈ [p] := List.mem_of_getElem? hj
    have e1 : a = p := by simpa using e1
    exact absurd (List.mem_of_getElem? hn) (by rw [e1]; exact hp)
theorem sok_push {p : Addr} {o : HO} {b : Ob} (np : z.H p = none) (k : SOk K M z) (hb : ObE K M (z.push p o b) p b) : SOk K M (z.push p o b) where
  len := by
    show (z.R ++ [p]).length = (z.S ++ [b]).length
    rw [List.length_append, List.length_append, k.len]
    rfl
  nd := by
    show (z.R ++ [p]).Nodup
    rw [List.nodup_append]
    refine ⟨k.nd, by simp, fun a ha c hc e => ?_⟩
    have : c = p := by simpa using hc
    subst this
    subst e
    exact not_R np k ha
  gR := fun g hg h => by
    have h' : g ∈ z.R ++ [p] := h
    rcases List.mem_append.mp h' with h' | h'
    · exact k.gR g hg h'
    · have e : g = p := by simpa using h'
      obtain ⟨xs, q, _⟩ := k.gT g hg
      rw [e, np] at q
      cases q
  gT := fun g hg => by
    obtain ⟨xs, h, h2⟩ := k.gT g hg
    exact ⟨xs, ((ext_push (o := o) (b := b) np k).gk g hg).trans h, h2⟩
  aux := k.aux.ext (ext_push np k) (tabs_put k.aux.tab np)
  obj := fun n u a h1 h2 => by
    have h1' : (z.S ++ [b])[n]? = some u := h1
    have h2' : (z.R ++ [p])[n]? = some a := h2
    have m := (ext_push (o := o) (b := b) np k).mv
    by_cases hn : n < z.S.length
    · rw [List.getElem?_append_left hn] at h1'
      rw [List.getElem?_append_left (by rw [k.len]; exact hn)] at h2'
      have q := k.obj n u a h1' h2'
      have ne : ∀ w, z.H a = some w → (z.push p o b).H a = some w := fun w h => by
        show upd z.H p o a = _
        rw [upd_ne (ne_of_none h np)]
        exact h
      cases u with
      | lst fz l =>
        obtain ⟨vs, h, e⟩ := q
        exact ⟨vs, ne _ h, e.mv m⟩
      | dic fz l =>
        obtain ⟨vs, h, e⟩ := q
        exact ⟨vs, ne _ h, e.mv m⟩
      | arr l =>
        obtain ⟨ha, vs, h, e⟩ := q
        exact ⟨ha, vs, ne _ h, e.ext (ext_push (o := o) (b := b) np k)⟩
      | dar ks l =>
        obtain ⟨ha, vs, h, e⟩ := q
        exact ⟨ha, vs, ne _ h, e.ext (ext_push (o := o) (b := b) np k)⟩
      | ins c ks l => exact ObE.mvR m (ext_push (o := o) (b := b) np k).pre (ext_push (o := o) (b := b) np k).grow ne (fun j hj => push_back (not_R np k) h2' hj) q
      | tpl l => exact ObE.mvR m (ext_push (o := o) (b := b) np k).pre (ext_push (o := o) (b := b) np k).grow ne (fun j hj => push_back (not_R np k) h2' hj) q
    · rw [List.getElem?_append_right (by rw [k.len]; omega)] at h2'
      have e1 : a ∈ [p] := List.mem_of_getElem? h2'
      have e1 : a = p := by simpa using e1
      rw [List.getElem?_append_right (by omega)] at h1'
      have e2 : u ∈ [b] := List.mem_of_getElem? h1'
      have e2 : u = b := by simpa using e2
      rw [e1, e2]
      exact hb
theorem encA_push {p : Addr} {o : HO} {b : Ob} (k : SOk K M z) : EncA K M (z.push p o b) (.ref z.S.length) (.ref p) := by
  refine .ref ?_ ?_
  · show (z.R ++ [p])[z.S.length]? = some p
    rw [← k.len, List.getElem?_append_right (Nat.le_refl _), Nat.sub_self]
    rfl
  · show z.S.length < (z.S ++ [b]).length
    rw [List.length_append]
    exact Nat.lt_succ_self _
def Sg.wrt (z : Sg) (n : Nat) (p : Addr) (o : HO) (b : Ob) : Sg := { H := upd z.H p o, S := z.S.set n b, R := z.R, G := z.G }
theorem ow_wrt {n : Nat} {p : Addr} {o : HO} {b u : Ob} (hn : z.S[n]? = some u) (hp : z.R[n]? = some p) (hl : u.live = true) (a : Addr) (h : (z.wrt n p o b).ow a) : z.ow a := by
  rcases h with ⟨m, w, h1, h2, h3⟩ | h
  · have h1' : (z.S.set n b)[m]? = some w := h1
    by_cases e : m = n
    · subst e
      have h3' : z.R[m]? = some a := h3
      exact .inl ⟨m, u, hn, hl, h3'⟩
    · rw [List.getElem?_set_ne (Ne.symm e)] at h1'
      exact .inl ⟨m, w, h1', h2, h3⟩
  · exact .inr h
theorem ow_at {n : Nat} {p : Addr} {u : Ob} (hn : z.S[n]? = some u) (hp : z.R[n]? = some p) (hl : u.live = true) : z.ow p := .inl ⟨n, u, hn, hl, hp⟩
theorem obE_at {p : Addr} {u : Ob} (q : ObE K M z p u) (hl : u.live = true) : ∃ w, z.H p = some w ∧ ((∃ xs, w = .lst xs) ∨ (∃ kvs, w = .dK kvs) ∨ ∃ C dx fs, w = .ins C dx fs) := by
  cases u with
  | lst fz l =>
    obtain ⟨vs, h, _⟩ := q
    exact ⟨_, h, .inl ⟨_, rfl⟩⟩
  | dic fz l =>
    obtain ⟨vs, h, _⟩ := q
    exact ⟨_, h, .inr (.inl ⟨_, rfl⟩)⟩
  | arr l =>
    obtain ⟨_, vs, h, _⟩ := q
    exact ⟨_, h, .inl ⟨_, rfl⟩⟩
  | dar ks l =>
    obtain ⟨_, vs, h, _⟩ := q
    exact ⟨_, h, .inr (.inl ⟨_, rfl⟩)⟩
  | ins c ks l =>
    obtain ⟨_, dx, vs, h, _⟩ := q
    exact ⟨_, h, .inr (.inr ⟨_, _, _, rfl⟩)⟩
  | tpl l => cases hl
theorem ext_wrt {n : Nat} {p : Addr} {o : HO} {b u : Ob} (k : SOk K M z) (hn : z.S[n]? = some u) (hp : z.R[n]? = some p) (hl : u.live = true) : Ext z (z.wrt n p o b) := by
  have no : ∀ a w, z.H a = some w → ¬ ObE K M z a u → True := fun _ _ _ _ => trivial
  have q := k.obj n u p hn hp
  have hw := obE_at q hl
  obtain ⟨w, hw, hk⟩ := hw
  have nep : ∀ a v, z.H a = some v → ((∃ vs, v = .lst vs) ∨ (∃ kvs, v = .dK kvs) ∨ ∃ C dx fs, v = .ins C dx fs) ∨ a ≠ p := fun a v h => by
    by_cases e : a = p
    · subst e
      rw [hw] at h
      cases h
      exact .inl hk
    · exact .inr e
  refine ⟨fun a v h nw _ => ?_, fun a h nw r => nw (ow_wrt hn hp hl a r), fun a xs h => ?_, fun a v w h => ?_, fun a fs h => ?_, ⟨[], (List.append_nil _).symm⟩, ?_, rfl, fun g hg => ?_⟩
  · show upd z.H p o a = some v
    rw [upd_ne (fun e => nw (by rw [e]; exact ow_at hn hp hl))]
    exact h
  · show upd z.H p o a = _
    rw [upd_ne ((nep a _ h).resolve_left fun r => by rcases r with ⟨_, r⟩ | ⟨_, r⟩ | ⟨_, _, _, r⟩ <;> cases r)]
    exact h
  · show upd z.H p o a = _
    rw [upd_ne ((nep a _ h).resolve_left fun r => by rcases r with ⟨_, r⟩ | ⟨_, r⟩ | ⟨_, _, _, r⟩ <;> cases r)]
    exact h
  · show upd z.H p o a = _
    rw [upd_ne ((nep a _ h).resolve_left fun r => by rcases r with ⟨_, r⟩ | ⟨_, r⟩ | ⟨_, _, _, r⟩ <;> cases r)]
    exact h
  · show z.S.length ≤ (z.S.set n b).length
    rw [List.length_set]
    exact Nat.le_refl _
  · show upd z.H p o g = z.H g
    rw [upd_ne]
    rintro rfl
    exact k.gR _ hg (List.mem_of_getElem? hp)
theorem nodup_at {l : List Addr} (h : l.Nodup) {i j : Nat} {a : Addr} (hi : l[i]? = some a) (hj : l[j]? = some a) : i = j := by
  obtain ⟨h1, e1⟩ := List.getElem?_eq_some_iff.mp hi
  obtain ⟨h2, e2⟩ := List.getElem?_eq_some_iff.mp hj
  exact (List.getElem_inj h).mp (e1.trans e2.symm)
theorem sok_wrt {n : Nat} {p : Addr} {o : HO} {b u : Ob} (k : SOk K M z) (hn : z.S[n]? = some u) (hp : z.R[n]? = some p) (hl : u.live = true) (hb : ObE K M (z.wrt n p o b) p b) : SOk K M (z.wrt n p o b) where
  len := by
    show z.R.length = (z.S.set n b).length
    rw [List.length_set]
    exact k.len
  nd := k.nd
  gR := k.gR
  gT := fun g hg => by
    obtain ⟨xs, h, h2⟩ := k.gT g hg
    exact ⟨xs, ((ext_wrt (o := o) (b := b) k hn hp hl).gk g hg).trans h, h2⟩
  aux := k.aux.ext (ext_wrt k hn hp hl) (by
    obtain ⟨w, h, hw⟩ := obE_at (k.obj n u p hn hp) hl
    exact tabs_wr k.aux.tab h hw)
  obj := fun m w a h1 h2 => by
    have h1' : (z.S.set n b)[m]? = some w := h1
    have h2' : z.R[m]? = some a := h2
    by_cases e : m = n
    · subst e
      rw [hp] at h2'
      cases h2'
      have hm : m < z.S.length := (List.getElem?_eq_some_iff.mp hn).1
      rw [List.getElem?_set_self hm] at h1'
      cases h1'
      exact hb
    · rw [List.getElem?_set_ne (Ne.symm e)] at h1'
      have q := k.obj m w a h1' h2'
      have ne : a ≠ p := fun r => by
        subst r
        exact e (nodup_at k.nd h2' hp)
      have m' := (ext_wrt (o := o) (b := b) k hn hp hl).mv
      have kp : ∀ v, z.H a = some v → (z.wrt n p o b).H a = some v := fun v h => by
        show upd z.H p o a = _
        rw [upd_ne ne]
        exact h
      cases w with
      | lst fz l =>
        obtain ⟨vs, h, r⟩ := q
        exact ⟨vs, kp _ h, r.mv m'⟩
      | dic fz l =>
        obtain ⟨vs, h, r⟩ := q
        exact ⟨vs, kp _ h, r.mv m'⟩
      | arr l =>
        obtain ⟨ha, vs, h, r⟩ := q
        exact ⟨ha, vs, kp _ h, r.ext (ext_wrt (o := o) (b := b) k hn hp hl)⟩
      | dar ks l =>
        obtain ⟨ha, vs, h, r⟩ := q
        exact ⟨ha, vs, kp _ h, r.ext (ext_wrt (o := o) (b := b) k hn hp hl)⟩
      | ins c ks l => exact ObE.mvR m' (ext_wrt (o := o) (b := b) k hn hp hl).pre (ext_wrt (o := o) (b := b) k hn hp hl).grow kp (fun _ h => h) q
      | tpl l => exact ObE.mvR m' (ext_wrt (o := o) (b := b) k hn hp hl).pre (ext_wrt (o := o) (b := b) k hn hp hl).grow kp (fun _ h => h) q
theorem ref_lst {n : Nat} {v : V} {fz : Bool} {l : List D} (k : SOk K M z) (h : EncA K M z (.ref n) v) (hs : z.S[n]? = some (.lst fz l)) : ∃ a vs, v = .ref a ∧ z.R[n]? = some a ∧ z.H a = some (.lst vs) ∧ EncL K M z.H z.ow l vs := by
  cases h with
  | ref h _ =>
    obtain ⟨vs, h1, h2⟩ := k.obj n _ _ hs h
    exact ⟨_, vs, rfl, h, h1, h2⟩
  | of h => cases h
theorem ref_arr {n : Nat} {v : V} {l : List D} (k : SOk K M z) (h : EncA K M z (.ref n) v) (hs : z.S[n]? = some (.arr l)) : M.arr = true ∧ (∀ d ∈ l, d ≠ .fn) ∧ ∃ a vs, v = .ref a ∧ z.R[n]? = some a ∧ z.H a = some (.lst vs) ∧ EncAs K M z l vs := by
  cases h with
  | ref h _ =>
    obtain ⟨⟨h0, h00⟩, vs, h1, h2⟩ := k.obj n _ _ hs h
    exact ⟨h0, h00, _, vs, rfl, h, h1, h2⟩
  | of h => cases h
theorem ref_dar {n : Nat} {v : V} {ks : List (List Nat)} {l : List D} (k : SOk K M z) (h : EncA K M z (.ref n) v) (hs : z.S[n]? = some (.dar ks l)) : M.arr = true ∧ ((∀ d ∈ l, d ≠ .fn) ∧ ks.length = l.length) ∧ ∃ a vs, v = .ref a ∧ z.R[n]? = some a ∧ z.H a = some (.dK ((ks.map tkey).zip vs)) ∧ EncAs K M z l vs := by
  cases h with
  | ref h _ =>
    obtain ⟨⟨h0, h00⟩, vs, h1, h2⟩ := k.obj n _ _ hs h
    exact ⟨h0, h00, _, vs, rfl, h, h1, h2⟩
  | of h => cases h
theorem ref_dic {n : Nat} {v : V} {fz : Bool} {l : List (D × D)} (k : SOk K M z) (h : EncA K M z (.ref n) v) (hs : z.S[n]? = some (.dic fz l)) : ∃ a kvs, v = .ref a ∧ z.R[n]? = some a ∧ z.H a = some (.dK kvs) ∧ EncP K M z.H z.ow l kvs := by
  cases h with
  | ref h _ =>
    obtain ⟨vs, h1, h2⟩ := k.obj n _ _ hs h
    exact ⟨_, vs, rfl, h, h1, h2⟩
  | of h => cases h
def EncX (K : PySem.W.Frag) (M : Lm) (z : Sg) (e : D) (cls : Value) (d : Option Addr) : Prop :=
  ∃ k l vs, e = .exc k l ∧ cls = .ref (M.cls k) ∧ XFld M z.H k d vs ∧ EncL K M z.H z.ow l vs
def Out {α β : Type} (K : PySem.W.Frag) (M : Lm) (enc : Sg → α → β → Prop) (W : WX) (σ : St) (z : Sg) (Q : β → Hp → Prop) : Res α → Prop
  | .ok a S' => ∀ z' b, z'.S = S' → Ext z z' → SOk K M z' → enc z' a b → Q b z'.H
  | .ex e S' => ∀ z' cls d, z'.S = S' → Ext z z' → SOk K M z' → EncX K M z' e cls d → W cls d σ z'.H
  | .bad => False
theorem Out.rebase {α β : Type} {enc : Sg → α → β → Prop} {W : WX} {σ : St} {Q : β → Hp → Prop} {r : Res α} (x : Ext z z') (h : Out K M enc W σ z Q r) : Out K M enc W σ z' Q r := by
  cases r with
  | ok a S => exact fun z2 b e1 e2 k q => h z2 b e1 (x.trans e2) k q
  | ex e S => exact fun z2 c d e1 e2 k q => h z2 c d e1 (x.trans e2) k q
  | bad => exact h
theorem Out.bind {α β γ δ : Type} {enc1 : Sg → α → β → Prop} {enc2 : Sg → γ → δ → Prop} {W : WX} {σ : St} {Q : δ → Hp → Prop} {r : Res α} {f : α → Sto → Res γ} (h : Out K M enc2 W σ z Q (r.bind f)) :
    Out K M enc1 W σ z (fun b H1 => ∃ a z1, z1.H = H1 ∧ r = .ok a z1.S ∧ Ext z z1 ∧ SOk K M z1 ∧ enc1 z1 a b ∧ Out K M enc2 W σ z1 Q (f a z1.S)) r := by
  cases r with
  | ok a S =>
    intro z1 b e1 x k q
    subst e1
    exact ⟨a, z1, rfl, rfl, x, k, q, Out.rebase x h⟩
  | ex e S => exact h
  | bad => exact h
theorem Out.imp {α β : Type} {enc : Sg → α → β → Prop} {W : WX} {σ : St} {Q Q' : β → Hp → Prop} {r : Res α} (h : Out K M enc W σ z Q r) (i : ∀ b H, Q b H → Q' b H) : Out K M enc W σ z Q' r := by
  cases r with
  | ok a S => exact fun z2 b e1 e2 k q => i _ _ (h z2 b e1 e2 k q)
  | ex e S => exact h
  | bad => exact h
def tG {α β : Type} (K : PySem.W.Frag) (M : Lm) (enc : Sg → α → β → Prop) (W : WX) (f : Env → Sto → Res α) : St → Hp → (β → Hp → Prop) → Prop := fun σ H Q =>
  ∃ env z, z.H = H ∧ SOk K M z ∧ EnvOk K M z env σ ∧ Out K M enc W σ z Q (f env z.S)
abbrev tE (K : PySem.W.Frag) (M : Lm) (W : WX) (f : Env → Sto → Res D) : TE := tG K M (EncA K M) W f
abbrev tT (K : PySem.W.Frag) (M : Lm) (W : WX) (f : Env → Sto → Res Bool) : TT := tG K M (fun _ a b => a = b) W f
abbrev tAs (K : PySem.W.Frag) (M : Lm) (W : WX) (f : Env → Sto → Res (List D)) : TA := tG K M (EncAs K M) W f
def OutS (K : PySem.W.Frag) (M : Lm) (W : WX) (D : Ends) (z : Sg) : SR → Prop
  | .nx env S' => ∀ z' σ', z'.S = S' → Ext z z' → SOk K M z' → EnvOk K M z' env σ' → D.nx σ' z'.H
  | .rt d S' => ∀ z' v, z'.S = S' → Ext z z' → SOk K M z' → EncA K M z' d v → D.rt v z'.H
  | .bk env S' => ∀ z' σ', z'.S = S' → Ext z z' → SOk K M z' → EnvOk K M z' env σ' → D.bk σ' z'.H
  | .ct env S' => ∀ z' σ', z'.S = S' → Ext z z' → SOk K M z' → EnvOk K M z' env σ' → D.ct σ' z'.H
  | .ex e env S' => ∀ z' σ' cls d, z'.S = S' → Ext z z' → SOk K M z' → EnvOk K M z' env σ' → EncX K M z' e cls d → W cls d σ' z'.H
  | .bad => False
theorem OutS.rebase {W : WX} {D : Ends} {r : SR} (x : Ext z z') (h : OutS K M W D z r) : OutS K M W D z' r := by
  cases r with
  | nx env S => exact fun z2 b e1 e2 k q => h z2 b e1 (x.trans e2) k q
  | rt d S => exact fun z2 b e1 e2 k q => h z2 b e1 (x.trans e2) k q
  | bk env S => exact fun z2 b e1 e2 k q => h z2 b e1 (x.trans e2) k q
  | ct env S => exact fun z2 b e1 e2 k q => h z2 b e1 (x.trans e2) k q
  | ex e env S => exact fun z2 σ' c d e1 e2 k q r => h z2 σ' c d e1 (x.trans e2) k q r
  | bad => exact h
def tS (K : PySem.W.Frag) (M : Lm) (W : WX) (f : Env → Sto → SR) : TS := fun D σ H =>
  ∃ env z, z.H = H ∧ SOk K M z ∧ EnvOk K M z env σ ∧ OutS K M W D z (f env z.S)
theorem Out.thn {α β : Type} {enc : Sg → α → β → Prop} {W : WX} {σ : St} {D : Ends} {r : Res α} {env : Env} {f : α → Sto → SR} (v : EnvOk K M z env σ) (h : OutS K M W D z (r.thn env f)) :
    Out K M enc W σ z (fun b H1 => ∃ a z1, z1.H = H1 ∧ r = .ok a z1.S ∧ Ext z z1 ∧ SOk K M z1 ∧ enc z1 a b ∧ EnvOk K M z1 env σ ∧ OutS K M W D z1 (f a z1.S)) r := by
  cases r with
  | ok a S =>
    intro z1 b e1 x k q
    subst e1
    exact ⟨a, z1, rfl, rfl, x, k, q, v.ext x, OutS.rebase x h⟩
  | ex e S => exact fun z1 c d e1 x k q => h z1 σ c d e1 x k (v.ext x) q
  | bad => exact h
end
section
variable {X : Cx} {M : Lm} {W : WX}
theorem pe_imp {e : Expr} {t t' : TE} (h : PE X e t) (i : ∀ σ H Q, t' σ H Q → t σ H Q) : PE X e t' := ⟨fun pins s σ H Q I q => h.run pins s σ H Q I (i _ _ _ q)⟩
theorem pt_imp {e : Expr} {t t' : TT} (h : PT X e t) (i : ∀ σ H Q, t' σ H Q → t σ H Q) : PT X e t' := ⟨fun pins s σ H Q I q => h.run pins s σ H Q I (i _ _ _ q)⟩
theorem pw_imp {e : Expr} {t t' : TT} (h : PW X e t) (i : ∀ σ H Q, t' σ H Q → t σ H Q) : PW X e t' := ⟨fun wh pins s σ H Q I q => h.run wh pins s σ H Q I (i _ _ _ q)⟩
theorem pa_imp {e : List Expr} {t t' : TA} (h : PA X e t) (i : ∀ σ H Q, t' σ H Q → t σ H Q) : PA X e t' := ⟨fun pos pins s σ H Q I q => h.run pos pins s σ H Q I (i _ _ _ q)⟩
theorem ps_imp {e : Stmt} {t t' : TS} (h : PS X e t) (i : ∀ D σ H, t' D σ H → t D σ H) : PS X e t' := ⟨fun pins s σ H D I q => h.run pins s σ H D I (i _ _ _ q)⟩
theorem pss_imp {e : List Stmt} {t t' : TS} (h : PSs X e t) (i : ∀ D σ H, t' D σ H → t D σ H) : PSs X e t' := ⟨fun pins s σ H D I q => h.run pins s σ H D I (i _ _ _ q)⟩
def SE (X : Cx) (M : Lm) (W : WX) (e : Expr) (f : Env → Sto → Res D) : Prop := PE X e (tE X.K M W f)
def ST (X : Cx) (M : Lm) (W : WX) (e : Expr) (f : Env → Sto → Res Bool) : Prop := PT X e (tT X.K M W f)
def SW (X : Cx) (M : Lm) (W : WX) (e : Expr) (f : Env → Sto → Res Bool) : Prop := PW X e (tT X.K M W f)
def SA (X : Cx) (M : Lm) (W : WX) (e : List Expr) (f : Env → Sto → Res (List D)) : Prop := PA X e (tAs X.K M W f)
def SS (X : Cx) (M : Lm) (W : WX) (e : Stmt) (f : Env → Sto → SR) : Prop := PS X e (tS X.K M W f)
def SSs (X : Cx) (M : Lm) (W : WX) (e : List Stmt) (f : Env → Sto → SR) : Prop := PSs X e (tS X.K M W f)

def varF (i : Nat) : Env → Sto → Res D := fun env S => match env[i]? with
  | some (some d) => .ok d S
  | _ => .bad
theorem s_var (i : Nat) {x : Str} {pos : Pos} (hN : X.N[i]? = some x := by rfl) (hv : Vis X.env.scope x := by first | exact Or.inl rfl | exact Or.inr (Or.inl rfl) | exact Or.inr (Or.inr rfl)) (hd : (x == ("__debug__" : Str)) = false := by decide)
    (hcd : (x == ("__classdict__" : Str)) = false := by decide) : SE X M W (.Name x pos) (varF i) := by
  refine pe_imp (pe_var hN hv hd hcd) fun σ H Q h => ?_
  obtain ⟨env, z, rfl, k, v, h⟩ := h
  show ∃ u, σ[i]? = some (some u) ∧ Q u z.H
  unfold varF at h
  split at h
  · rename_i d e
    obtain ⟨u, h1, h2⟩ := v.2 i d e
    exact ⟨u, h1, h z u rfl (Ext.refl z) k h2⟩
  · exact h.elim
def conF (d : D) : Env → Sto → Res D := fun _ S => .ok d S
theorem tc_of {σ : St} {H : Hp} {Q : VK} {d : D} {v : V} (e : ∀ H ow, Enc X.K M H ow d v) (h : tE X.K M W (conF d) σ H Q) : tC v σ H Q := by
  obtain ⟨env, z, rfl, k, _, h⟩ := h
  exact h z v rfl (Ext.refl z) k (.of (e _ _))
theorem s_int {i : Int} {j : Nat} {pos : Pos} : SE X M W (.Constant (.int i) j pos) (conF (.int i)) := pe_imp pe_int fun _ _ _ h => tc_of (fun _ _ => .int i) h
theorem s_bl {b : Bool} {j : Nat} {pos : Pos} : SE X M W (.Constant (.bool b) j pos) (conF (.bl b)) := pe_imp pe_bl fun _ _ _ h => tc_of (fun _ _ => .bl b) h
theorem s_str {x : Str} (s : List Nat) {j : Nat} {pos : Pos} (e : x = ⟨s.toArray⟩ := by decide +kernel) : SE X M W (.Constant (.str x) j pos) (conF (.str s)) := by
  subst e
  exact pe_imp pe_str fun _ _ _ h => tc_of (fun _ _ => .str s) h

def nopF : Env → Sto → SR := fun env S => .nx env S
def seqF (f g : Env → Sto → SR) : Env → Sto → SR := fun env S => (f env S).seq g
def ifF (t : Env → Sto → Res Bool) (f g : Env → Sto → SR) : Env → Sto → SR := fun env S => (t env S).thn env fun b S1 => match b with
  | true => f env S1
  | false => g env S1
def setF (i : Nat) (f : Env → Sto → Res D) : Env → Sto → SR := fun env S => (f env S).thn env fun d S1 => .nx (env.set i (some d)) S1
def retF (f : Env → Sto → Res D) : Env → Sto → SR := fun env S => (f env S).thn env fun d S1 => .rt d S1
def dropF (f : Env → Sto → Res D) : Env → Sto → SR := fun env S => (f env S).thn env fun _ S1 => .nx env S1
theorem ss_nil : SSs X M W [] nopF := by
  refine pss_imp pss_nil fun D σ H h => ?_
  obtain ⟨env, z, rfl, k, v, h⟩ := h
  exact h z σ rfl (Ext.refl z) k v
theorem ss_one {st : Stmt} {f : Env → Sto → SR} (h : SS X M W st f) : SSs X M W [st] f := pss_one h
theorem ss_cons {st : Stmt} {rest : List Stmt} {f g : Env → Sto → SR} (h1 : SS X M W st f) (h2 : SSs X M W rest g) : SSs X M W (st :: rest) (seqF f g) := by
  refine pss_imp (pss_cons h1 h2) fun D σ H h => ?_
  obtain ⟨env, z, rfl, k, v, h⟩ := h
  refine ⟨env, z, rfl, k, v, ?_⟩
  unfold seqF at h
  cases r : f env z.S with
  | nx env' S' =>
    rw [r] at h
    intro z' σ' e1 x k' v'
    subst e1
    exact ⟨env', z', rfl, k', v', OutS.rebase x h⟩
  | rt d S' =>
    rw [r] at h
    exact h
  | bk env' S' =>
    rw [r] at h
    exact h
  | ct env' S' =>
    rw [r] at h
    exact h
  | ex e env' S' =>
    rw [r] at h
    exact h
  | bad =>
    rw [r] at h
    exact h
theorem ss_if {c : Expr} {a b : List Stmt} {pos : Pos} {t : Env → Sto → Res Bool} {f g : Env → Sto → SR} (hc : ST X M W c t) (ha : SSs X M W a f) (hb : SSs X M W b g) : SS X M W (.If c a b pos) (ifF t f g) := by
  refine ps_imp (ps_if hc ha hb) fun D σ H h => ?_
  obtain ⟨env, z, rfl, k, v, h⟩ := h
  refine ⟨env, z, rfl, k, v, (Out.thn v h).imp fun b H1 q => ?_⟩
  obtain ⟨a, z1, rfl, _, x, k1, rfl, v1, h1⟩ := q
  cases a with
  | true => exact ⟨env, z1, rfl, k1, v1, h1⟩
  | false => exact ⟨env, z1, rfl, k1, v1, h1⟩
theorem ss_ret {e : Expr} {pos : Pos} {f : Env → Sto → Res D} (he : SE X M W e f) : SS X M W (.Return (some e) pos) (retF f) := by
  refine ps_imp (ps_ret he) fun D σ H h => ?_
  obtain ⟨env, z, rfl, k, v, h⟩ := h
  refine ⟨env, z, rfl, k, v, (Out.thn v h).imp fun b H1 q => ?_⟩
  obtain ⟨a, z1, rfl, _, x, k1, q, v1, h1⟩ := q
  exact h1 z1 b rfl (Ext.refl z1) k1 q
theorem ss_expr {e : Expr} {pos : Pos} {f : Env → Sto → Res D} (he : SE X M W e f) (hs : swapsWith e none pos.line X.env = pure false := by rfl) : SS X M W (.Expr e pos) (dropF f) := by
  refine ps_imp (ps_expr he hs) fun D σ H h => ?_
  obtain ⟨env, z, rfl, k, v, h⟩ := h
  refine ⟨env, z, rfl, k, v, (Out.thn v h).imp fun b H1 q => ?_⟩
  obtain ⟨a, z1, rfl, _, x, k1, q, v1, h1⟩ := q
  exact h1 z1 σ rfl (Ext.refl z1) k1 v1
theorem ss_set (i : Nat) {x : Str} {e : Expr} {pos pos' : Pos} {f : Env → Sto → Res D} (hN : X.N.Nodup) (he : SE X M W e f) (hi : X.N[i]? = some x := by rfl) (hx : Loc X.env.scope x := by first | exact Or.inl rfl | exact Or.inr rfl)
    (hs : swapsWith e (some (.Name x pos')) pos.line X.env = pure false := by rfl) (hf : X.fn x = true ∨ X.env.scope.names.lookup x = some .local := by first | exact .inl rfl | exact .inr rfl) : SS X M W (.Assign [.Name x pos'] e pos) (setF i f) := by
  refine ps_imp (ps_set hN hi hx he hs hf) fun D σ H h => ?_
  obtain ⟨env, z, rfl, k, v, h⟩ := h
  refine ⟨env, z, rfl, k, v, (Out.thn v h).imp fun b H1 q => ?_⟩
  obtain ⟨a, z1, rfl, _, x, k1, q, v1, h1⟩ := q
  exact h1 z1 _ rfl (Ext.refl z1) k1 (v1.set i q)
def isB (f : Env → Sto → Res D) : Env → Sto → Res Bool := fun env S => (f env S).bind fun d S1 => match d with
  | .bl b => .ok b S1
  | _ => .bad
theorem encA_bl {z : Sg} {b : Bool} {v : V} {K : PySem.W.Frag} (h : EncA K M z (.bl b) v) : v = .bl b := by
  cases h with
  | of h =>
    cases h
    rfl
theorem encA_int {z : Sg} {b : Int} {v : V} {K : PySem.W.Frag} (h : EncA K M z (.int b) v) : v = .int b := by
  cases h with
  | of h =>
    cases h
    rfl
theorem encA_non {z : Sg} {v : V} {K : PySem.W.Frag} (h : EncA K M z .non v) : v = .non := by
  cases h with
  | of h =>
    cases h
    rfl
theorem encA_str {z : Sg} {s : List Nat} {v : V} {K : PySem.W.Frag} (h : EncA K M z (.str s) v) : v = .str ⟨s.toArray⟩ := by
  cases h with
  | of h =>
    cases h
    rfl
theorem st_val {e : Expr} {f : Env → Sto → Res D} (h : SE X M W e f) (he : ∀ whole, isTrue e X.env whole = (do let v ← whole; standAt e.pos; holding [v] (truthy v)) := by intro _; rfl) : ST X M W e (isB f) := by
  refine pt_imp (pt_val h he) fun σ H Q h => ?_
  obtain ⟨env, z, rfl, k, v, h⟩ := h
  refine ⟨env, z, rfl, k, v, (Out.bind h).imp fun b H1 q => ?_⟩
  obtain ⟨a, z1, rfl, _, x, k1, q, h1⟩ := q
  cases a with
  | bl c => exact ⟨c, encA_bl q, h1 z1 c rfl (Ext.refl z1) k1 rfl⟩
  | _ => exact h1.elim
def andT (f g : Env → Sto → Res Bool) : Env → Sto → Res Bool := fun env S => (f env S).bind fun b S1 => match b with
  | true => g env S1
  | false => .ok false S1
def orT (f g : Env → Sto → Res Bool) : Env → Sto → Res Bool := fun env S => (f env S).bind fun b S1 => match b with
  | true => .ok true S1
  | false => g env S1
def notT (f : Env → Sto → Res Bool) : Env → Sto → Res Bool := fun env S => (f env S).bind fun b S1 => .ok (!b) S1
theorem sw_and1 {a : Expr} {pos : Pos} {f : Env → Sto → Res Bool} (h : ST X M W a f) : SW X M W (.BoolOp .And [a] pos) f := pw_and1 h
theorem sw_or1 {a : Expr} {pos : Pos} {f : Env → Sto → Res Bool} (h : ST X M W a f) : SW X M W (.BoolOp .Or [a] pos) f := pw_or1 h
theorem sw_and {a b : Expr} {rest : List Expr} {pos : Pos} {f g : Env → Sto → Res Bool} (ha : ST X M W a f) (hb : SW X M W (.BoolOp .And (b :: rest) pos) g) : SW X M W (.BoolOp .And (a :: b :: rest) pos) (andT f g) := by
  refine pw_imp (pw_and ha hb) fun σ H Q h => ?_
  obtain ⟨env, z, rfl, k, v, h⟩ := h
  refine ⟨env, z, rfl, k, v, (Out.bind h).imp fun b H1 q => ?_⟩
  obtain ⟨a, z1, rfl, _, x, k1, rfl, h1⟩ := q
  cases a with
  | true => exact ⟨env, z1, rfl, k1, v.ext x, h1⟩
  | false => exact h1 z1 false rfl (Ext.refl z1) k1 rfl
theorem sw_or {a b : Expr} {rest : List Expr} {pos : Pos} {f g : Env → Sto → Res Bool} (ha : ST X M W a f) (hb : SW X M W (.BoolOp .Or (b :: rest) pos) g) : SW X M W (.BoolOp .Or (a :: b :: rest) pos) (orT f g) := by
  refine pw_imp (pw_or ha hb) fun σ H Q h => ?_
  obtain ⟨env, z, rfl, k, v, h⟩ := h
  refine ⟨env, z, rfl, k, v, (Out.bind h).imp fun b H1 q => ?_⟩
  obtain ⟨a, z1, rfl, _, x, k1, rfl, h1⟩ := q
  cases a with
  | true => exact h1 z1 true rfl (Ext.refl z1) k1 rfl
  | false => exact ⟨env, z1, rfl, k1, v.ext x, h1⟩
theorem st_w {e : Expr} {f : Env → Sto → Res Bool} (h : SW X M W e f) : ST X M W e f := PW.pt h
theorem st_not {a : Expr} {pos : Pos} {f : Env → Sto → Res Bool} (h : ST X M W a f) : ST X M W (.UnaryOp .Not a pos) (notT f) := by
  refine pt_imp (pt_not h) fun σ H Q h => ?_
  obtain ⟨env, z, rfl, k, v, h⟩ := h
  refine ⟨env, z, rfl, k, v, (Out.bind h).imp fun b H1 q => ?_⟩
  obtain ⟨a, z1, rfl, _, x, k1, rfl, h1⟩ := q
  exact h1 z1 (!a) rfl (Ext.refl z1) k1 rfl
def andV (f g : Env → Sto → Res D) : Env → Sto → Res D := fun env S => (f env S).bind fun d S1 => match d with
  | .bl true => g env S1
  | .bl false => .ok (.bl false) S1
  | _ => .bad
def orV (f g : Env → Sto → Res D) : Env → Sto → Res D := fun env S => (f env S).bind fun d S1 => match d with
  | .bl true => .ok (.bl true) S1
  | .bl false => g env S1
  | _ => .bad
def notV (f : Env → Sto → Res D) : Env → Sto → Res D := fun env S => (f env S).bind fun d S1 => match d with
  | .bl b => .ok (.bl (!b)) S1
  | _ => .bad
theorem s_one {op : BoolOp} {a : Expr} {pos : Pos} {f : Env → Sto → Res D} (h : SE X M W a f) : SE X M W (.BoolOp op [a] pos) f := pe_one h
theorem s_and {a b : Expr} {rest : List Expr} {pos : Pos} {f g : Env → Sto → Res D} (ha : SE X M W a f) (hb : SE X M W (.BoolOp .And (b :: rest) pos) g) : SE X M W (.BoolOp .And (a :: b :: rest) pos) (andV f g) := by
  refine pe_imp (pe_and ha hb) fun σ H Q h => ?_
  obtain ⟨env, z, rfl, k, v, h⟩ := h
  refine ⟨env, z, rfl, k, v, (Out.bind h).imp fun b H1 q => ?_⟩
  obtain ⟨a, z1, rfl, _, x, k1, q, h1⟩ := q
  cases a with
  | bl c =>
    refine ⟨c, encA_bl q, ?_⟩
    cases c with
    | true => exact ⟨env, z1, rfl, k1, v.ext x, h1⟩
    | false => exact h1 z1 _ rfl (Ext.refl z1) k1 (.of (.bl false))
  | _ => exact h1.elim
theorem s_or {a b : Expr} {rest : List Expr} {pos : Pos} {f g : Env → Sto → Res D} (ha : SE X M W a f) (hb : SE X M W (.BoolOp .Or (b :: rest) pos) g) : SE X M W (.BoolOp .Or (a :: b :: rest) pos) (orV f g) := by
  refine pe_imp (pe_or ha hb) fun σ H Q h => ?_
  obtain ⟨env, z, rfl, k, v, h⟩ := h
  refine ⟨env, z, rfl, k, v, (Out.bind h).imp fun b H1 q => ?_⟩
  obtain ⟨a, z1, rfl, _, x, k1, q, h1⟩ := q
  cases a with
  | bl c =>
    refine ⟨c, encA_bl q, ?_⟩
    cases c with
    | true => exact h1 z1 _ rfl (Ext.refl z1) k1 (.of (.bl true))
    | false => exact ⟨env, z1, rfl, k1, v.ext x, h1⟩
  | _ => exact h1.elim
theorem s_not {a : Expr} {pos : Pos} {f : Env → Sto → Res D} (h : SE X M W a f) : SE X M W (.UnaryOp .Not a pos) (notV f) := by
  refine pe_imp (pe_not h) fun σ H Q h => ?_
  obtain ⟨env, z, rfl, k, v, h⟩ := h
  refine ⟨env, z, rfl, k, v, (Out.bind h).imp fun b H1 q => ?_⟩
  obtain ⟨a, z1, rfl, _, x, k1, q, h1⟩ := q
  cases a with
  | bl c => exact ⟨c, encA_bl q, h1 z1 _ rfl (Ext.refl z1) k1 (.of (.bl _))⟩
  | _ => exact h1.elim
def iteF (t : Env → Sto → Res Bool) (f g : Env → Sto → Res D) : Env → Sto → Res D := fun env S => (t env S).bind fun b S1 => match b with
  | true => f env S1
  | false => g env S1
theorem s_ite {c a b : Expr} {pos : Pos} {t : Env → Sto → Res Bool} {f g : Env → Sto → Res D} (hc : ST X M W c t) (ha : SE X M W a f) (hb : SE X M W b g) : SE X M W (.IfExp c a b pos) (iteF t f g) := by
  refine pe_imp (pe_ifExp hc ha hb) fun σ H Q h => ?_
  obtain ⟨env, z, rfl, k, v, h⟩ := h
  refine ⟨env, z, rfl, k, v, (Out.bind h).imp fun b H1 q => ?_⟩
  obtain ⟨a, z1, rfl, _, x, k1, rfl, h1⟩ := q
  cases a with
  | true => exact ⟨env, z1, rfl, k1, v.ext x, h1⟩
  | false => exact ⟨env, z1, rfl, k1, v.ext x, h1⟩
def nilA : Env → Sto → Res (List D) := fun _ S => .ok [] S
def consA (f : Env → Sto → Res D) (g : Env → Sto → Res (List D)) : Env → Sto → Res (List D) := fun env S => (f env S).bind fun d S1 => (g env S1).bind fun l S2 => .ok (d :: l) S2
theorem sa_nil : SA X M W [] nilA := by
  refine pa_imp pa_nil fun σ H Q h => ?_
  obtain ⟨env, z, rfl, k, v, h⟩ := h
  exact h z [] rfl (Ext.refl z) k .nil
theorem sa_cons {e : Expr} {es : List Expr} {f : Env → Sto → Res D} {g : Env → Sto → Res (List D)} (he : SE X M W e f) (hr : SA X M W es g) (hs : starEach (e :: es) X.env = (false, eval e X.env) :: starEach es X.env := by rfl) : SA X M W (e :: es) (consA f g) := by
  refine pa_imp (pa_cons he hr hs) fun σ H Q h => ?_
  obtain ⟨env, z, rfl, k, v, h⟩ := h
  refine ⟨env, z, rfl, k, v, (Out.bind h).imp fun b H1 q => ?_⟩
  obtain ⟨a, z1, rfl, _, x, k1, q, h1⟩ := q
  refine ⟨env, z1, rfl, k1, v.ext x, (Out.bind h1).imp fun b2 H2 q2 => ?_⟩
  obtain ⟨a2, z2, rfl, _, x2, k2, q2, h2⟩ := q2
  exact h2 z2 _ rfl (Ext.refl z2) k2 (.cons (q.ext x2) q2)
end
end Sm
namespace Sm
open PySem PySem.Spec PyProof.Rows L2
def whileN (t : Env → Sto → Res Bool) (b : Env → Sto → SR) : Nat → Env → Sto → SR
  | 0, _, _ => .bad
  | n + 1, env, S => (t env S).thn env fun c S1 => match c with
    | true => match b env S1 with
      | .nx env2 S2 => whileN t b n env2 S2
      | .ct env2 S2 => whileN t b n env2 S2
      | .bk env2 S2 => .nx env2 S2
      | .rt d S2 => .rt d S2
      | .ex e env2 S2 => .ex e env2 S2
      | .bad => .bad
    | false => .nx env S1
def FUEL : Nat := 10 ^ 4000
def whileF (t : Env → Sto → Res Bool) (b : Env → Sto → SR) : Env → Sto → SR := fun env S => whileN t b FUEL env S
section
variable {X : Cx} {M : Lm} {W : WX}
theorem ss_while {c : Expr} {body : List Stmt} {pos : Pos} {t : Env → Sto → Res Bool} {b : Env → Sto → SR} (hp : PassesOwn (model X.prog X.w) X.A X.env X.xe) (hc : ST X M W c t) (hb : SSs X M W body b) : SS X M W (.While c body [] pos) (whileF t b) := by
  refine ps_imp (ps_while hp hc hb) fun D σ H h => ?_
  obtain ⟨env, z, rfl, k, v, h⟩ := h
  refine ⟨fun m σ H => ∃ env z, z.H = H ∧ SOk X.K M z ∧ EnvOk X.K M z env σ ∧ OutS X.K M W D z (whileN t b m env z.S), ⟨FUEL, env, z, rfl, k, v, h⟩, ?_⟩
  rintro m σ H ⟨env, z, rfl, k, v, h⟩
  cases m with
  | zero => exact h.elim
  | succ m =>
    refine ⟨env, z, rfl, k, v, (Out.thn v h).imp fun c H1 q => ?_⟩
    obtain ⟨a, z1, rfl, _, x, k1, rfl, v1, h1⟩ := q
    cases a with
    | false => exact h1 z1 σ rfl (Ext.refl z1) k1 v1
    | true =>
      refine ⟨fun σ' H' => ∃ env z, z.H = H' ∧ SOk X.K M z ∧ EnvOk X.K M z env σ' ∧ OutS X.K M W D z (whileN t b m env z.S), fun σ' H' q => ⟨m, Nat.lt_succ_self m, q⟩, env, z1, rfl, k1, v1, ?_⟩
      have h1' : OutS X.K M W D z1 (match b env z1.S with
        | .nx env2 S2 => whileN t b m env2 S2
        | .ct env2 S2 => whileN t b m env2 S2
        | .bk env2 S2 => .nx env2 S2
        | .rt d S2 => .rt d S2
        | .ex e env2 S2 => .ex e env2 S2
        | .bad => .bad) := h1
      cases r : b env z1.S with
      | nx env2 S2 =>
        rw [r] at h1'
        intro z2 σ2 e2 x2 k2 v2
        subst e2
        exact ⟨env2, z2, rfl, k2, v2, OutS.rebase x2 h1'⟩
      | ct env2 S2 =>
        rw [r] at h1'
        intro z2 σ2 e2 x2 k2 v2
        subst e2
        exact ⟨env2, z2, rfl, k2, v2, OutS.rebase x2 h1'⟩
      | bk env2 S2 =>
        rw [r] at h1'
        exact h1'
      | rt d S2 =>
        rw [r] at h1'
        exact h1'
      | ex e env2 S2 =>
        rw [r] at h1'
        exact h1'
      | bad =>
        rw [r] at h1'
        exact h1'
end
structure Itm where
  l : List D
  g : Option Nat
  o : Option Ob
def Itm.ok (J : Itm) (S : Sto) : Prop := ∀ n, J.g = some n → S[n]? = J.o
structure Wk (z z' : Sg) : Prop where
  mv : Mv z.H z'.H z.ow z'.ow
  pre : ∃ T, z'.R = z.R ++ T
  grow : z.S.length ≤ z'.S.length
theorem Ext.wk {z z' : Sg} (e : Ext z z') : Wk z z' := ⟨e.mv, e.pre, e.grow⟩
theorem Wk.rAt {z z' : Sg} (e : Wk z z') {n : Nat} {a : Addr} (h : z.R[n]? = some a) : z'.R[n]? = some a := by
  obtain ⟨T, q⟩ := e.pre
  have hl : n < z.R.length := (List.getElem?_eq_some_iff.mp h).1
  rw [q, List.getElem?_append_left hl]
  exact h
def ItOk (K : PySem.W.Frag) (M : Lm) (z : Sg) (J : It) (I : Itm) : Prop :=
  ∀ z2, Wk z z2 → SOk K M z2 → I.ok z2.S → ∀ i : Nat,
    (∀ d, I.l[i]? = some d → J.go i z2.H ∧ ∀ v H3, J.yld i z2.H v H3 → ∃ z3, z3.H = H3 ∧ z3.S = z2.S ∧ Ext z2 z3 ∧ SOk K M z3 ∧ EncA K M z3 d v) ∧
    (I.l.length ≤ i → J.stop i z2.H)
def tI (K : PySem.W.Frag) (M : Lm) (W : WX) (f : Env → Sto → Res Itm) : TI := tG K M (fun z I J => I.ok z.S ∧ ItOk K M z J I) W f
def SI (X : Cx) (M : Lm) (W : WX) (tg iter : Expr) (f : Env → Sto → Res Itm) : Prop := PI X tg iter (tI X.K M W f)
inductive Tgt where
  | one (i : Nat)
  | many (l : List Tgt)
mutual
def Tgt.put : Tgt → D → Env → Option Env
  | .one i, d, env => some (env.set i (some d))
  | .many ts, .tup l, env => Tgt.puts ts l env
  | .many ts, .lst l, env => Tgt.puts ts l env
  | .many _, _, _ => none
def Tgt.puts : List Tgt → List D → Env → Option Env
  | [], [], env => some env
  | t :: ts, d :: l, env => match t.put d env with
    | some env' => Tgt.puts ts l env'
    | none => none
  | [], _ :: _, _ => none
  | _ :: _, [], _ => none
end
def TgOk (K : PySem.W.Frag) (M : Lm) (g : TG) (t : Tgt) : Prop := ∀ (z : Sg) (env env' : Env) (σ : St) (d : D) (v : V) (Q : St → Hp → Prop), SOk K M z → EnvOk K M z env σ → EncA K M z d v → t.put d env = some env' →
  (∀ σ', EnvOk K M z env' σ' → Q σ' z.H) → g v σ z.H Q
def TgsOk (K : PySem.W.Frag) (M : Lm) (g : TGs) (ts : List Tgt) : Prop := ∀ (z : Sg) (env env' : Env) (σ : St) (l : List D) (vs : List V) (Q : St → Hp → Prop), SOk K M z → EnvOk K M z env σ → EncL K M z.H z.ow l vs → Tgt.puts ts l env = some env' →
  (∀ σ', EnvOk K M z env' σ' → Q σ' z.H) → g vs σ z.H Q
structure SG (X : Cx) (M : Lm) (e : Expr) (t : Tgt) : Prop where
  ex : ∃ g, PG X e g ∧ TgOk X.K M g t
structure SGs (X : Cx) (M : Lm) (es : List Expr) (ts : List Tgt) : Prop where
  ex : ∃ g, PGs X es g ∧ TgsOk X.K M g ts
section
variable {X : Cx} {M : Lm} {W : WX}
theorem sg_name (i : Nat) {x : Str} {pos : Pos} (hN : X.N.Nodup) (hi : X.N[i]? = some x := by rfl) (hx : Loc X.env.scope x := by first | exact Or.inl rfl | exact Or.inr rfl)
    (hf : X.fn x = true ∨ X.env.scope.names.lookup x = some .local := by first | exact .inl rfl | exact .inr rfl) : SG X M (.Name x pos) (.one i) :=
  ⟨_, pg_name hN hi hx hf, fun z env env' σ d v Q k ve q e h => h _ (by
    have e' : env.set i (some d) = env' := Option.some.inj e
    rw [← e']
    exact ve.set i q)⟩
theorem sgs_nil : SGs X M [] [] := ⟨_, pgs_nil, fun z env env' σ l vs Q k ve q e h => by
  cases q with
  | nil => exact ⟨rfl, h _ (by
      have e' : env = env' := Option.some.inj e
      rw [← e']
      exact ve)⟩
  | cons a b => cases e⟩
theorem sgs_cons {e : Expr} {es : List Expr} {t : Tgt} {ts : List Tgt} (h1 : SG X M e t) (h2 : SGs X M es ts) (hs : (assignEach (e :: es) X.env).map (·.2) = assign e X.env :: (assignEach es X.env).map (·.2) := by rfl) : SGs X M (e :: es) (t :: ts) := by
  obtain ⟨g, h1, o1⟩ := h1.ex
  obtain ⟨g2, h2, o2⟩ := h2.ex
  refine ⟨_, pgs_cons h1 h2 hs, fun z env env' σ l vs Q k ve q e h => ?_⟩
  cases q with
  | nil => cases e
  | cons a b =>
    rename_i d v l vs
    unfold Tgt.puts at e
    cases r : t.put d env with
    | none =>
      rw [r] at e
      cases e
    | some env1 =>
      rw [r] at e
      exact ⟨v, vs, rfl, o1 z env env1 σ d v _ k ve (.of a) r fun σ1 v1 => o2 z env1 env' σ1 l vs Q k v1 b e h⟩
def gTL (K : PySem.W.Frag) (n : Nat) (t : TGs) : TG := fun v σ H Q => ∃ a xs, v = .ref a ∧ (SqT K H a xs ∨ SqL K H a xs) ∧ xs.length = n ∧ t xs σ H Q
theorem pg_tl {es : List Expr} {k : Nat} {pos : Pos} {t : TGs} {n : Nat} (hc : X.calm = true) (h : PGs X es t)
    (hn : (assignEach es X.env).length = n := by rfl) (hst : (assignEach es X.env).findIdx? (·.1) = none := by rfl) : PG X (.Tuple es k pos) (gTL X.K n t) := by
  refine ⟨fun pins s σ H v u Q I r hw => ?_⟩
  obtain ⟨a, xs, e1, hq, hl, hw⟩ := hw
  rcases hq with hq | hq
  · exact (pg_tup hc h hn hst).run pins s σ H v u Q I r ⟨a, xs, e1, hq, hl, hw⟩
  · subst e1
    cases r
    obtain ⟨its, rv, ht, hz⟩ := I.list hq
    rw [PyProof.Rows.assign_Tuple]
    refine wpAny_bind (wpAny_standAt ?_)
    unfold unpack
    rw [show (assignEach es X.env).length = its.toArray.size by simp [hn, ← hl, rv.length], hst]
    refine wpAny_bind (wpAny_holding (PySem.W.kun_itemsOf (I.ok.hd hc) ht.isList fun h' hx => ?_))
    have I1 : Inv X pins σ H { s with heap := h' } := I.kept (t' := s.toks) fun b o e => hx b o (Nat.ne_of_lt (Heap.lt_size e)) e
    exact h.run pins _ σ H xs _ Q I1 (by simpa using rv) hw
theorem putsLen : ∀ (ts : List Tgt) (l : List D) (env env' : Env), Tgt.puts ts l env = some env' → ts.length = l.length := by
  intro ts
  induction ts with
  | nil =>
    intro l env env' e
    cases l with
    | nil => rfl
    | cons _ _ => cases e
  | cons t ts ih =>
    intro l env env' e
    cases l with
    | nil => cases e
    | cons d l =>
      unfold Tgt.puts at e
      cases r : t.put d env with
      | none =>
        rw [r] at e
        cases e
      | some env1 =>
        rw [r] at e
        rw [List.length_cons, List.length_cons, ih l env1 env' e]
theorem sg_tup {es : List Expr} {kk : Nat} {pos : Pos} {ts : List Tgt} (hc : X.calm = true) (h : SGs X M es ts) (n : Nat) (hl : ts.length = n := by rfl)
    (hn : (assignEach es X.env).length = n := by rfl) (hst : (assignEach es X.env).findIdx? (·.1) = none := by rfl) : SG X M (.Tuple es kk pos) (.many ts) := by
  obtain ⟨g, h1, o1⟩ := h.ex
  refine ⟨_, pg_tl hc h1 hn hst, fun z env env' σ d v Q k ve q e h => ?_⟩
  cases d with
  | tup l =>
    cases q with
    | of q =>
      cases q with
      | tup hs nd hl' =>
        rename_i a vs
        have e' : Tgt.puts ts l env = some env' := e
        exact ⟨a, vs, rfl, .inl hs, by rw [← hl'.length, ← putsLen ts l env env' e', hl], o1 z env env' σ l vs Q k ve hl' e' h⟩
  | lst l =>
    cases q with
    | of q =>
      cases q with
      | lst hs hl' =>
        rename_i a vs
        have e' : Tgt.puts ts l env = some env' := e
        exact ⟨a, vs, rfl, .inr hs.rl.sq, by rw [← hl'.length, ← putsLen ts l env env' e', hl], o1 z env env' σ l vs Q k ve hl' e' h⟩
  | _ => cases e
def forL (t : Tgt) (b : Env → Sto → SR) (g : Option Nat) (o : Option Ob) : List D → Env → Sto → SR
  | [], env, S => match g with
    | none => .nx env S
    | some n => if S[n]? = o then .nx env S else .bad
  | d :: r, env, S => 
    let go : SR := match t.put d env with
      | none => .bad
      | some env1 => match b env1 S with
        | .nx env2 S2 => forL t b g o r env2 S2
        | .ct env2 S2 => forL t b g o r env2 S2
        | .bk env2 S2 => .nx env2 S2
        | .rt d S2 => .rt d S2
        | .ex e env2 S2 => .ex e env2 S2
        | .bad => .bad
    match g with
    | none => go
    | some n => if S[n]? = o then go else .bad
def itF (it : Env → Sto → Res Itm) (t : Tgt) (b : Env → Sto → SR) : Env → Sto → SR := fun env S => (it env S).thn env fun J S1 => forL t b J.g J.o J.l env S1
theorem ss_for {tg iter : Expr} {body : List Stmt} {pos : Pos} {it : Env → Sto → Res Itm} {t : Tgt} {b : Env → Sto → SR} (hp : PassesOwn (model X.prog X.w) X.A X.env X.xe) (hc : X.calm = true) (hi : SI X M W tg iter it) (hg : SG X M tg t) (hb : SSs X M W body b)
    (hs : ∀ x, foldedSetIterable iter X.env x = pure x := by intro _; rfl) : SS X M W (.For tg iter body [] pos) (itF it t b) := by
  obtain ⟨g, hg, og⟩ := hg.ex
  refine ps_imp (ps_for hp hc hi hg hb hs) fun D σ H h => ?_
  obtain ⟨env, z, rfl, k, v, h⟩ := h
  refine ⟨env, z, rfl, k, v, (Out.thn v h).imp fun J H1 q => ?_⟩
  obtain ⟨I, z1, rfl, _, x, k1, ⟨ok1, hJ⟩, v1, h1⟩ := q
  refine ⟨fun i m σ H => m = I.l.length - i ∧ i ≤ I.l.length ∧ ∃ env z, z.H = H ∧ SOk X.K M z ∧ Ext z1 z ∧ EnvOk X.K M z env σ ∧ OutS X.K M W D z (forL t b I.g I.o (I.l.drop i) env z.S), ⟨I.l.length, rfl, Nat.zero_le _, env, z1, rfl, k1, Ext.refl z1, v1, h1⟩, ?_⟩
  rintro i m σ H ⟨rfl, hi, env, z, rfl, k, x, v, h⟩
  by_cases hlt : i < I.l.length
  · have hd : I.l.drop i = I.l[i] :: I.l.drop (i + 1) := List.drop_eq_getElem_cons hlt
    rw [hd] at h
    have hok : I.ok z.S ∧ OutS X.K M W D z (match t.put I.l[i] env with
      | none => SR.bad
      | some env1 => match b env1 z.S with
        | .nx env2 S2 => forL t b I.g I.o (I.l.drop (i + 1)) env2 S2
        | .ct env2 S2 => forL t b I.g I.o (I.l.drop (i + 1)) env2 S2
        | .bk env2 S2 => .nx env2 S2
        | .rt d S2 => .rt d S2
        | .ex e env2 S2 => .ex e env2 S2
        | .bad => .bad) := by
      unfold forL at h
      cases hg : I.g with
      | none =>
        rw [hg] at h
        exact ⟨fun n q => (by rw [hg] at q; cases q), h⟩
      | some n =>
        rw [hg] at h
        dsimp only at h
        by_cases e : z.S[n]? = I.o
        · rw [if_pos e] at h
          exact ⟨fun n' q => (by
            rw [hg] at q
            cases q
            exact e), h⟩
        · rw [if_neg e] at h
          exact h.elim
    obtain ⟨hok, h⟩ := hok
    obtain ⟨go, yl⟩ := (hJ z x.wk k hok i).1 _ (List.getElem?_eq_getElem hlt)
    refine .inr ⟨go, fun σ' H' => ∃ env z, z.H = H' ∧ SOk X.K M z ∧ Ext z1 z ∧ EnvOk X.K M z env σ' ∧ OutS X.K M W D z (forL t b I.g I.o (I.l.drop (i + 1)) env z.S), fun σ' H' q => ⟨I.l.length - (i + 1), by omega, rfl, hlt, q⟩, fun w H3 y => ?_⟩
    obtain ⟨z3, rfl, eS, x3, k3, e3⟩ := yl w H3 y
    cases r : t.put I.l[i] env with
    | none =>
      rw [r] at h
      exact h.elim
    | some env1 =>
      rw [r] at h
      have h' : OutS X.K M W D z (match b env1 z.S with
        | .nx env2 S2 => forL t b I.g I.o (I.l.drop (i + 1)) env2 S2
        | .ct env2 S2 => forL t b I.g I.o (I.l.drop (i + 1)) env2 S2
        | .bk env2 S2 => .nx env2 S2
        | .rt d S2 => .rt d S2
        | .ex e env2 S2 => .ex e env2 S2
        | .bad => .bad) := h
      refine og z3 env env1 σ _ w _ k3 (v.ext x3) e3 r fun σ1 v1 => ⟨env1, z3, rfl, k3, v1, ?_⟩
      rw [← eS] at h'
      have h3 := OutS.rebase x3 h'
      clear h'
      cases rb : b env1 z3.S with
      | nx env2 S2 =>
        rw [rb] at h3
        intro z4 σ4 e4 x4 k4 v4
        subst e4
        exact ⟨env2, z4, rfl, k4, x.trans (x3.trans x4), v4, OutS.rebase x4 h3⟩
      | ct env2 S2 =>
        rw [rb] at h3
        intro z4 σ4 e4 x4 k4 v4
        subst e4
        exact ⟨env2, z4, rfl, k4, x.trans (x3.trans x4), v4, OutS.rebase x4 h3⟩
      | bk env2 S2 =>
        rw [rb] at h3
        exact h3
      | rt d S2 =>
        rw [rb] at h3
        exact h3
      | ex e env2 S2 =>
        rw [rb] at h3
        exact h3
      | bad =>
        rw [rb] at h3
        exact h3
  · have e : I.l.drop i = [] := List.drop_eq_nil_of_le (by omega)
    rw [e] at h
    have hok : I.ok z.S ∧ OutS X.K M W D z (.nx env z.S) := by
      unfold forL at h
      cases hg : I.g with
      | none =>
        rw [hg] at h
        exact ⟨fun n q => (by rw [hg] at q; cases q), h⟩
      | some n =>
        rw [hg] at h
        dsimp only at h
        by_cases e : z.S[n]? = I.o
        · rw [if_pos e] at h
          exact ⟨fun n' q => (by
            rw [hg] at q
            cases q
            exact e), h⟩
        · rw [if_neg e] at h
          exact h.elim
    obtain ⟨hok, h⟩ := hok
    exact .inl ⟨(hJ z x.wk k hok i).2 (by omega), h z σ rfl (Ext.refl z) k v⟩
def rangeL (lo : Int) : Nat → List D
  | 0 => []
  | n + 1 => .int lo :: rangeL (lo + 1) n
theorem rangeL_get (n : Nat) : ∀ (lo : Int) (i : Nat) (d : D), (rangeL lo n)[i]? = some d → i < n ∧ d = .int (lo + i) := by
  induction n with
  | zero =>
    intro lo i d h
    simp [rangeL] at h
  | succ n ih =>
    intro lo i d h
    cases i with
    | zero =>
      simp [rangeL] at h
      subst h
      exact ⟨Nat.succ_pos n, by simp⟩
    | succ i =>
      simp [rangeL] at h
      obtain ⟨h1, h2⟩ := ih (lo + 1) i d h
      refine ⟨by omega, ?_⟩
      rw [h2]
      congr 1
      omega
theorem rangeL_length (n : Nat) : ∀ lo : Int, (rangeL lo n).length = n := by
  induction n with
  | zero => intro lo; rfl
  | succ n ih => intro lo; rw [rangeL, List.length_cons, ih]
def isSm (i : Int) : Bool := decide (-(2 ^ 62) ≤ i ∧ i < 2 ^ 62)
def itR1 (f : Env → Sto → Res (List D)) : Env → Sto → Res Itm := fun env S => (f env S).bind fun d S1 => match d with
  | [.int j] => if isSm j then .ok ⟨rangeL 0 j.toNat, none, none⟩ S1 else .bad
  | _ => .bad
def itR2 (f : Env → Sto → Res (List D)) : Env → Sto → Res Itm := fun env S => (f env S).bind fun d S1 => match d with
  | [.int i, .int j] => if isSm i && isSm j then .ok ⟨rangeL i (j - i).toNat, none, none⟩ S1 else .bad
  | _ => .bad
theorem range_ok {K : PySem.W.Frag} {z1 : Sg} (lo : Int) (n : Nat) : ItOk K M z1 (Itr lo n) ⟨rangeL lo n, none, none⟩ := fun z2 x2 k2 _ i => by
  refine ⟨fun d hd => ?_, fun hi => by
    rw [rangeL_length] at hi
    exact hi⟩
  obtain ⟨h1, h2⟩ := rangeL_get n lo i d hd
  refine ⟨h1, fun u H3 y => ?_⟩
  obtain ⟨rfl, rfl⟩ := y
  exact ⟨z2, rfl, rfl, Ext.refl _, k2, by
    rw [h2]
    exact .of (.int _)⟩
theorem encAs1 {K : PySem.W.Frag} {z : Sg} {d : D} {vs : List V} (h : EncAs K M z [d] vs) : ∃ v, vs = [v] ∧ EncA K M z d v := by
  cases h with
  | cons a b =>
    cases b
    exact ⟨_, rfl, a⟩
theorem encAs2 {K : PySem.W.Frag} {z : Sg} {d e : D} {vs : List V} (h : EncAs K M z [d, e] vs) : ∃ v w, vs = [v, w] ∧ EncA K M z d v ∧ EncA K M z e w := by
  cases h with
  | cons a b =>
    obtain ⟨w, rfl, c⟩ := encAs1 b
    exact ⟨_, w, rfl, a, c⟩
theorem si_range1 {tg a : Expr} {p pos : Pos} {f : Env → Sto → Res (List D)} (ha : SA X M W [a] f) (hm : X.mg "range" = none) (hg : Gl X "range" := by rfl) (hs : starEach [a] X.env = [(false, eval a X.env)] := by rfl) : SI X M W tg (.Call (.Name "range" p) [a] [] pos) (itR1 f) := by
  refine ⟨fun pins s σ H R I q => (pi_range1 hg hm ha hs).run pins s σ H R I ?_⟩
  obtain ⟨env, z, rfl, k, v, h⟩ := q
  refine ⟨env, z, rfl, k, v, (Out.bind h).imp fun b H1 q => ?_⟩
  obtain ⟨d, z1, rfl, _, x, k1, q, h1⟩ := q
  match d, q, h1 with
  | [.int j], q, h1 =>
    obtain ⟨w, rfl, e⟩ := encAs1 q
    rw [encA_int e]
    have h1' : Out X.K M _ W σ z1 R (if isSm j = true then Res.ok (⟨rangeL 0 j.toNat, none, none⟩ : Itm) z1.S else Res.bad) := h1
    by_cases c : isSm j = true
    · rw [if_pos c] at h1'
      have c2 := of_decide_eq_true c
      exact ⟨j, rfl, c2.1, c2.2, h1' z1 _ rfl (Ext.refl _) k1 ⟨fun n z => (by cases z), range_ok 0 _⟩⟩
    · rw [if_neg c] at h1'
      exact h1'.elim
theorem si_range2 {tg a b : Expr} {p pos : Pos} {f : Env → Sto → Res (List D)} (ha : SA X M W [a, b] f) (hm : X.mg "range" = none) (hg : Gl X "range" := by rfl) (hs : starEach [a, b] X.env = [(false, eval a X.env), (false, eval b X.env)] := by rfl)
    (hs2 : starEach [b] X.env = [(false, eval b X.env)] := by rfl) : SI X M W tg (.Call (.Name "range" p) [a, b] [] pos) (itR2 f) := by
  refine ⟨fun pins s σ H R I q => (pi_range2 hg hm ha hs hs2).run pins s σ H R I ?_⟩
  obtain ⟨env, z, rfl, k, v, h⟩ := q
  refine ⟨env, z, rfl, k, v, (Out.bind h).imp fun b H1 q => ?_⟩
  obtain ⟨d, z1, rfl, _, x, k1, q, h1⟩ := q
  match d, q, h1 with
  | [.int i, .int j], q, h1 =>
    obtain ⟨w, w2, rfl, e, e2⟩ := encAs2 q
    rw [encA_int e, encA_int e2]
    have h1' : Out X.K M _ W σ z1 R (if (isSm i && isSm j) = true then Res.ok (⟨rangeL i (j - i).toNat, none, none⟩ : Itm) z1.S else Res.bad) := h1
    by_cases c : (isSm i && isSm j) = true
    · rw [if_pos c] at h1'
      rw [Bool.and_eq_true] at c
      have c1 := of_decide_eq_true c.1
      have c2 := of_decide_eq_true c.2
      exact ⟨i, j, rfl, ⟨c1.1, c1.2, c2.1, c2.2⟩, h1' z1 _ rfl (Ext.refl _) k1 ⟨fun n z => (by cases z), range_ok i _⟩⟩
    · rw [if_neg c] at h1'
      exact h1'.elim
end
end Sm
namespace Sm
open PySem PySem.Spec PyProof.Rows L2
abbrev Fn := List D → Sto → Res D
def fin (n0 : Nat) (d : D) (S : Sto) : Res D := match d with
  | .fn => .bad
  | .ref n => if n < n0 then .ok (.ref n) (S.take n0) else match S[n]? with
    | some (.lst _ l) => .ok (.lst l) (S.take n0)
    | some (.dic _ l) => .ok (.dic l) (S.take n0)
    | _ => .bad
  | d => .ok d (S.take n0)
def fnEnd (c : Bool) (n0 : Nat) (r : SR) : Res D := match r with
  | .nx _ S' => if c then fin n0 .non S' else .ok .non S'
  | .rt d S' => if c then fin n0 d S' else .ok d S'
  | .ex e _ S' => .ex e (S'.take n0)
  | _ => .bad
def fnM (n k : Nat) (c : Bool) (body : Env → Sto → SR) : Fn := fun args S =>
  if args.length = n then fnEnd c S.length (body (args.map some ++ List.replicate k none) S) else .bad
def spF (K : PySem.W.Frag) (M : Lm) (n : Nat) (m : Fn) : Sp := fun vs H Q E =>
  ∃ args z, z.H = H ∧ SOk K M z ∧ args.length = n ∧ EncAs K M z args vs ∧ Out K M (EncA K M) (fun c d _ H => E c d H) [] z Q (m args z.S)
structure FnS (P : Program) (w : World) (K : PySem.W.Frag) (M : Lm) (mg : Str → Option Value) (base : Heap) (k : Nat) (f : Addr) (fd : FuncData) (ps : List Str) (m : Fn) : Prop where
  len : ∀ args S, args.length ≠ ps.length → m args S = .bad
  run : ∀ (A : Around) (outer : List PySem.Env) (s : Shared) (H : Hp) (args : Args) (us : List Value) (vs : List V) (Q : VK) (E : XK), Room k A → A.guards = some [] → Env0 P w K mg base A outer s H →
    BindsTo s fd args (ps.zip us) → Vals vs us → spF K M ps.length m vs H Q E → codeAny (model P w) A (.call (.ref f) args) (CR (L2.CX P w) outer P w H s Q E) s
section
variable {P : Program} {w : World} {K : PySem.W.Frag} {M : Lm} {mg : Str → Option Value} {base : Heap} {z z' : Sg}
theorem FnS.mono {j k : Nat} {f : Addr} {fd : FuncData} {ps : List Str} {m : Fn} (F : FnS P w K M mg base j f fd ps m) (h : j ≤ k) : FnS P w K M mg base k f fd ps m :=
  ⟨F.len, fun A outer s H args us vs Q E hr => F.run A outer s H args us vs Q E (hr.mono h)⟩
def Sg.cut (z : Sg) (n : Nat) : Sg := { z with S := z.S.take n, R := z.R.take n }
theorem cut_ow {n : Nat} {a : Addr} (h : (z.cut n).ow a) : z.ow a := by
  rcases h with ⟨m, o, h1, h2, h3⟩ | h
  · have h1' : (z.S.take n)[m]? = some o := h1
    have h3' : (z.R.take n)[m]? = some a := h3
    have hm : m < n := by
      have := (List.getElem?_eq_some_iff.mp h1').1
      rw [List.length_take] at this
      omega
    rw [List.getElem?_take_of_lt hm] at h1' h3'
    exact .inl ⟨m, o, h1', h2, h3'⟩
  · exact .inr h
theorem cut_ext (x : Ext z z') (k : SOk K M z) : Ext z (z'.cut z.S.length) where
  keep := x.keep
  nw := fun a h n q => x.nw a h n (cut_ow q)
  tup := x.tup
  frz := x.frz
  xds := x.xds
  pre := by
    obtain ⟨T, e⟩ := x.pre
    refine ⟨[], ?_⟩
    show z'.R.take z.S.length = _
    rw [e, ← k.len, List.take_left, List.append_nil]
  grow := by
    show z.S.length ≤ (z'.S.take z.S.length).length
    rw [List.length_take]
    have := x.grow
    omega
  gh := x.gh
  gk := x.gk
theorem Mv.less {H : Hp} {ow ow' : Addr → Prop} (h : ∀ a, ow' a → ow a) : Mv H H ow ow' := ⟨fun _ _ e _ _ => e, fun a _ n q => n (h a q), fun _ _ e => e, fun _ _ _ e => e, fun _ _ e => e⟩
theorem cut_sok {n : Nat} (na : M.arr = false) (k : SOk K M z) (x : Aux K M (z.cut n)) : SOk K M (z.cut n) where
  aux := x
  len := by
    show (z.R.take n).length = (z.S.take n).length
    rw [List.length_take, List.length_take, k.len]
  nd := k.nd.sublist (List.take_sublist _ _)
  gR := fun g hg h => k.gR g hg (List.mem_of_mem_take h)
  gT := k.gT
  obj := fun m o a h1 h2 => by
    have h1' : (z.S.take n)[m]? = some o := h1
    have h2' : (z.R.take n)[m]? = some a := h2
    have hm : m < n := by
      have := (List.getElem?_eq_some_iff.mp h1').1
      rw [List.length_take] at this
      omega
    rw [List.getElem?_take_of_lt hm] at h1' h2'
    have q := k.obj m o a h1' h2'
    have mv : Mv z.H z.H z.ow (z.cut n).ow := Mv.less fun a h => cut_ow h
    cases o with
    | lst fz l =>
      obtain ⟨vs, h, e⟩ := q
      exact ⟨vs, h, e.mv mv⟩
    | dic fz l =>
      obtain ⟨vs, h, e⟩ := q
      exact ⟨vs, h, e.mv mv⟩
    | arr l =>
      have := q.1.1
      rw [na] at this
      cases this
    | dar ks l =>
      have := q.1.1
      rw [na] at this
      cases this
    | ins c ks l =>
      obtain ⟨hl, dx, vs, h, e⟩ := q
      exact ⟨hl, dx, vs, h, e.mv mv⟩
    | tpl l =>
      obtain ⟨⟨nf, hr⟩, vs, h, e⟩ := q
      have lt : ∀ k, D.ref k ∈ l → k < n := fun k hk => Nat.lt_trans (hr m h2' k hk) hm
      refine ⟨⟨nf, fun j hj => hr j ?_⟩, vs, h, ?_⟩
      · have hj' : (z.R.take n)[j]? = some a := hj
        rw [List.getElem?_take] at hj'
        split at hj'
        · exact hj'
        · cases hj'
      · clear hr h h1 h1'
        induction e with
        | nil => exact .nil
        | @cons d v l vs x t ih =>
          refine .cons ?_ (ih (fun d hd => nf d (List.mem_cons_of_mem _ hd)) fun k hk => lt k (List.mem_cons_of_mem _ hk))
          cases x with
          | @ref j b h1 h2 =>
            have lj := lt j (List.mem_cons_self ..)
            refine .ref ?_ ?_
            · show (z.R.take n)[j]? = some b
              rw [List.getElem?_take_of_lt lj]
              exact h1
            · show j < (z.S.take n).length
              rw [List.length_take]
              omega
          | of h => exact .of (h.mv mv)
          | fn e => exact absurd rfl (nf _ (List.mem_cons_self ..))
theorem cut_not {n m : Nat} {a : Addr} (k : SOk K M z) (h : z.R[m]? = some a) (hm : n ≤ m) : ¬ (z.cut n).ow a := by
  rintro (⟨j, o, h1, h2, h3⟩ | g)
  · have h3' : (z.R.take n)[j]? = some a := h3
    have hj : j < n := by
      have := (List.getElem?_eq_some_iff.mp h3').1
      rw [List.length_take] at this
      omega
    rw [List.getElem?_take_of_lt hj] at h3'
    have := nodup_at k.nd h3' h
    omega
  · exact k.gR a g (List.mem_of_getElem? h)
theorem fin_ok {n0 : Nat} {d d' : D} {S' : Sto} {v : V} (k : SOk K M z) (h : EncA K M z d v) (e : fin n0 d z.S = .ok d' S') : S' = (z.cut n0).S ∧ EncA K M (z.cut n0) d' v := by
  have mv : Mv z.H z.H z.ow (z.cut n0).ow := Mv.less fun a h => cut_ow h
  have nf : d ≠ .fn := fun q => by
    subst q
    cases e
  have plain : (∀ n, d ≠ .ref n) → fin n0 d z.S = .ok d (z.S.take n0) := fun hn => by
    cases d <;> first | rfl | exact absurd rfl (hn _) | exact absurd rfl nf
  by_cases hd : ∃ n, d = .ref n
  · obtain ⟨n, rfl⟩ := hd
    unfold fin at e
    dsimp only at e
    by_cases hn : n < n0
    · rw [if_pos hn] at e
      cases e
      refine ⟨rfl, ?_⟩
      cases h with
      | ref h l =>
        refine .ref ?_ ?_
        · show (z.R.take n0)[n]? = _
          rw [List.getElem?_take_of_lt hn]
          exact h
        · show n < (z.S.take n0).length
          rw [List.length_take]
          omega
      | of h => cases h
    · rw [if_neg hn] at e
      cases r : z.S[n]? with
      | none =>
        rw [r] at e
        cases e
      | some o =>
        rw [r] at e
        cases o with
        | lst fz l =>
          cases e
          refine ⟨rfl, ?_⟩
          obtain ⟨a, vs, rfl, ha, hv, hl⟩ := ref_lst k h r
          exact .of (.lst (.inl ⟨.inl hv, cut_not k ha (by omega)⟩) (hl.mv mv))
        | dic fz l =>
          cases e
          refine ⟨rfl, ?_⟩
          obtain ⟨a, vs, rfl, ha, hv, hl⟩ := ref_dic k h r
          exact .of (.dic hv (cut_not k ha (by omega)) (hl.mv mv))
        | arr l => cases e
        | dar ks l => cases e
        | ins c ks l => cases e
        | tpl l => cases e
  · have hn : ∀ n, d ≠ .ref n := fun n q => hd ⟨n, q⟩
    rw [plain hn] at e
    cases e
    exact ⟨rfl, .of ((h.enc hn nf).mv mv)⟩
theorem fn_end {c : Bool} {Q : VK} {E : XK} {r : SR} (na : M.arr = false) (k : SOk K M z) (h : Out K M (EncA K M) (fun c d _ H => E c d H) [] z Q (fnEnd c z.S.length r)) :
    OutS K M (fun c d _ H => E c d H) { nx := fun _ H' => Q .non H', rt := Q } z r := by
  have core : ∀ (d : D) (S' : Sto) (v : V) (z' : Sg), Out K M (EncA K M) (fun c d _ H => E c d H) [] z Q (if c = true then fin z.S.length d S' else .ok d S') → z'.S = S' → Ext z z' → SOk K M z' → EncA K M z' d v → Q v z'.H := by
    intro d S' v z' h e x k' q
    subst e
    cases c with
    | false => exact h z' v rfl x k' q
    | true =>
      have h' : Out K M (EncA K M) (fun c d _ H => E c d H) [] z Q (fin z.S.length d z'.S) := h
      cases r : fin z.S.length d z'.S with
      | ok d' S2 =>
        obtain ⟨e1, q2⟩ := fin_ok k' q r
        rw [r] at h'
        exact h' (z'.cut z.S.length) v e1.symm (cut_ext x k) (cut_sok na k' (k.aux.ext (cut_ext x k) k'.aux.tab)) q2
      | ex e S2 =>
        unfold fin at r
        split at r
        · cases r
        · split at r
          · cases r
          · split at r <;> cases r
        · cases r
      | bad =>
        rw [r] at h'
        exact h'.elim
  cases r with
  | nx env S' => exact fun z' σ' e x k' v' => core .non S' .non z' h e x k' (.of .non)
  | rt d S' => exact fun z' v e x k' q => core d S' v z' h e x k' q
  | bk env S' => exact h.elim
  | ct env S' => exact h.elim
  | ex e env S' =>
    intro z' σ' cls d e1 x k' v' q
    subst e1
    have mv : Mv z'.H z'.H z'.ow (z'.cut z.S.length).ow := Mv.less fun a h => cut_ow h
    obtain ⟨kk, l, vs, e1, e2, e3, e4⟩ := q
    exact h (z'.cut z.S.length) cls d rfl (cut_ext x k) (cut_sok na k' (k.aux.ext (cut_ext x k) k'.aux.tab)) ⟨kk, l, vs, e1, e2, e3, e4.mv mv⟩
  | bad => exact h.elim
theorem env_start {N ps : List Str} {args : List D} {vs : List V} (q : EncAs K M z args vs) (hl : args.length = ps.length) (hN : ps.length ≤ N.length) : EnvOk K M z (args.map some ++ List.replicate (N.length - ps.length) none) (L2.start N vs) := by
  have hv : vs.length = ps.length := by rw [← q.length]; exact hl
  refine ⟨?_, fun i d e => ?_⟩
  · unfold L2.start
    rw [List.length_append, List.length_append, List.length_map, List.length_map, List.length_replicate, List.length_replicate]
    omega
  · have hi : i < args.length := by
      refine Classical.byContradiction fun hi => ?_
      rw [List.getElem?_append_right (by rw [List.length_map]; omega), List.getElem?_replicate] at e
      split at e <;> cases e
    rw [List.getElem?_append_left (by rw [List.length_map]; exact hi), List.getElem?_map] at e
    have get : ∀ {l : List D} {us : List V} {i : Nat} {d : D}, EncAs K M z l us → l[i]? = some d → ∃ v, us[i]? = some v ∧ EncA K M z d v := by
      intro l us i d q
      induction q generalizing i with
      | nil =>
        intro h
        simp at h
      | cons a b ih =>
        intro h
        cases i with
        | zero =>
          simp at h
          subst h
          exact ⟨_, rfl, a⟩
        | succ i =>
          obtain ⟨v, h1, h2⟩ := ih (i := i) (by simpa using h)
          exact ⟨v, by simpa using h1, h2⟩
    cases r : args[i]? with
    | none =>
      rw [r] at e
      cases e
    | some d' =>
      rw [r] at e
      have e' : d' = d := Option.some.inj (Option.some.inj e)
      subst e'
      obtain ⟨v, h1, h2⟩ := get q r
      refine ⟨v, ?_, h2⟩
      unfold L2.start
      rw [List.getElem?_append_left (by
        rw [List.length_map]
        exact (List.getElem?_eq_some_iff.mp h1).1), List.getElem?_map, h1]
      rfl
theorem FnS.of {x qual : Str} {st : Stmt} {f : Addr} {fd : FuncData} {N ps : List Str} {k nk : Nat} {c : Bool} {body : Env → Sto → SR} (na : M.arr = false) (F : Fun K x qual st f fd) (S : FnScope N ps (defScope st)) (hk : N.length - ps.length = nk) (hN : ps.length ≤ N.length)
    (hbody : ∀ (cdv : Value), fd.code = cdv → ∀ (A : Around) (outer : List PySem.Env) (s : Shared) (H : Hp) (E : XK), Room k (A.deeper (envOfC qual (defScope st) s.heap.objs.size f cdv)) → (A.deeper (envOfC qual (defScope st) s.heap.objs.size f cdv)).guards = some [] →
      ∀ W, Takes (cxOf (L2.CX P w) P w K mg base N qual (defScope st) f cdv A outer s H E) W → PassesOwn (model P w) (A.deeper (envOfC qual (defScope st) s.heap.objs.size f cdv)) (envOfC qual (defScope st) s.heap.objs.size f cdv) (cxOf (L2.CX P w) P w K mg base N qual (defScope st) f cdv A outer s H E).xe →
      SSs (cxOf (L2.CX P w) P w K mg base N qual (defScope st) f cdv A outer s H E) M W (defBody st) body) :
    FnS P w K M mg base (k + 1) f fd ps (fnM ps.length nk c body) := by
  obtain ⟨oc, od, kV, doc, pm, an, cdv, ct, osl, rfl, lk, hcd⟩ := F.ex
  refine ⟨fun args S h => if_neg h, ?_⟩
  intro A outer s H args us vs Q E hr hg e0 hb r hsp
  obtain ⟨as, z, rfl, kz, hla, hq, hout⟩ := hsp
  have hl : vs.length = ps.length := by rw [← hq.length]; exact hla
  have KX : K.In s.heap := e0.mod.kin.keeps fun b o e => (e0.bs b o e).1
  have lim : s.heap.NoLimit := e0.mod.nolimit.keeps fun b o e => (e0.bs b o e).1
  have hkind : ∀ y ∈ ps.zip us, (defScope st).names.lookup y.1 = some .local ∨ ((defScope st).names.lookup y.1 = some .cell ∧ ((cellsFrom (s.heap.objs.size + 1) (defScope st).names []).lookup y.1).isSome = true) := by
    rintro ⟨n, v⟩ hy
    rcases S.par n (List.of_mem_zip hy).1 with q | q
    · exact .inl q
    · exact .inr ⟨q, PySem.W.cellsFrom_some _ _ _ (.inl q)⟩
  refine codeAny_call_function hr.depth (KX _ _ lk) rfl S.co S.gen rfl (PySem.W.codeRec_of KX hcd) (hb _ _ _ _ ?_)
  refine wpAny_newFunctionEnv_cells S.kind hkind fun env he s1 x => ?_
  subst he
  refine ⟨lim.keeps x.toInCall.keep, codeAny_func ?_⟩
  have I : Inv (cxOf (L2.CX P w) P w K mg base N qual (defScope st) f cdv A outer s z.H E) [] (L2.start N vs) z.H s1 := inv_start S hr.hd e0 hl r x
  have tk : Takes (cxOf (L2.CX P w) P w K mg base N qual (defScope st) f cdv A outer s z.H E) (fun c d _ H => E c d H) := takes_of rfl rfl rfl rfl
  have ht := hbody cdv rfl A outer s z.H E (hr.deeper _) hg _ tk (passes_of rfl)
  have hq2 : tS K M (fun c d _ H => E c d H) body { nx := fun _ H' => Q .non H', rt := Q } (L2.start N vs) z.H := by
    refine ⟨as.map some ++ List.replicate nk none, z, rfl, kz, ?_, fn_end (c := c) na kz ?_⟩
    · rw [← hk]
      exact env_start hq hla hN
    · unfold fnM at hout
      rw [if_pos hla] at hout
      exact hout
  refine wpAny_mono (ht.run [] s1 (L2.start N vs) z.H _ I hq2) (fun fl s' hs => ?_) fun e s' hs => hs
  have fin' : ∀ {σ' : St} {H' : Hp} {v : V} {u : Value}, Inv (cxOf (L2.CX P w) P w K mg base N qual (defScope st) f cdv A outer s z.H E) [] σ' H' s' → RelV v u → Q v H' → CE outer P w z.H s Q u s' := by
    intro σ' H' v u J rv q
    exact ⟨v, H', J.os, J.bare, J.base, J.hok, rv, q⟩
  cases fl with
  | next =>
    obtain ⟨σ', H', J, q⟩ := hs
    exact fin' (v := V.non) (u := Value.none) J rfl q
  | ret u =>
    obtain ⟨v, σ', H', J, rv, q⟩ := hs
    exact fin' J rv q
  | brk =>
    obtain ⟨_, _, _, q⟩ := hs
    exact q.elim
  | cont =>
    obtain ⟨_, _, _, q⟩ := hs
    exact q.elim
end
def callF (m : Fn) (g : Env → Sto → Res (List D)) : Env → Sto → Res D := fun env S => (g env S).bind m
section
variable {X : Cx} {M : Lm} {W : WX}
theorem run_fnS {k : Nat} {f : Addr} {fd : FuncData} {ps : List Str} {m : Fn} {pins : List (Addr × Obj)} {σ : St} {s : Shared} {z : Sg} {Q : VK} {us : List Value} {vs : List V} {args : List D}
    (F : FnS X.prog X.w X.K M X.mg X.base k f fd ps m) (hr : Room k X.A) (gd : X.A.guards = some []) (hb : Binds X.K fd ps []) (tk : Takes X W)
    (I : Inv X pins σ z.H s) (r : Vals vs us) (kz : SOk X.K M z) (q : EncAs X.K M z args vs) (h : Out X.K M (EncA X.K M) W σ z Q (m args z.S)) : wpAny (model X.prog X.w) X.A (call (.ref f) us) (EP X pins σ Q) X.xe s := by
  have hl : args.length = ps.length := by
    refine Classical.byContradiction fun n => ?_
    rw [F.len _ _ n] at h
    exact h.elim
  have hlu : (us ++ []).length = ps.length := by
    rw [List.append_nil, ← r.length, ← q.length]
    exact hl
  have h2 : Out X.K M (EncA X.K M) (fun c d _ H => W c d σ H) [] z Q (m args z.S) := by
    cases e : m args z.S with
    | ok a S =>
      rw [e] at h
      exact h
    | ex a S =>
      rw [e] at h
      exact h
    | bad =>
      rw [e] at h
      exact h
  have hb' := hb s us I.kIn hlu
  rw [List.append_nil] at hb'
  refine wpAny_call (codeAny_mono (F.run X.A X.stack s z.H ⟨us, []⟩ us vs Q (fun c d H => W c d σ H) hr gd I.env0 hb' r ⟨args, z, rfl, kz, hl, q, h2⟩) fun r s' hq => ?_)
  cases r with
  | error e => exact tk e s' (XE.of_call I (fun _ _ _ z => z) hq)
  | ok fl =>
    cases fl with
    | ret u => exact I.after hq
    | next => exact False.elim hq
    | brk => exact False.elim hq
    | cont => exact False.elim hq
theorem s_call {k : Nat} {f : Addr} {fd : FuncData} {ps : List Str} {m : Fn} {x : Str} {p pos : Pos} {e : Expr} {es : List Expr} {g : Env → Sto → Res (List D)} (F : FnS X.prog X.w X.K M X.mg X.base k f fd ps m) (hr : Room k X.A) (gd : X.A.guards = some [])
    (hm : X.mg x = some (.ref f)) (hk : PySem.W.keepIn X.K (.ref f) = true) (hb : Binds X.K fd ps []) (tk : Takes X W) (ha : SA X M W (e :: es) g) (hg : Gl X x := by rfl)
    (hdb : (x == ("__debug__" : Str)) = false := by decide) (he : starEach (e :: es) X.env = (false, eval e X.env) :: starEach es X.env := by rfl) (hpl : (backTo pos (starEach es X.env)).any (·.1) = false := by rfl) : SE X M W (.Call (.Name x p) (e :: es) [] pos) (callF m g) := by
  refine ⟨fun pins s σ H Q I h => ?_⟩
  obtain ⟨env, z, rfl, kz, v, h⟩ := h
  refine wpAny_Call_Name_kw (ld_glob I hg hm ?_ hdb)
  refine PySem.W.callWith_K (h₀ := X.base) I.ok.mod.kin hk (thn (ha.run pos pins s σ z.H _ I ⟨env, z, rfl, kz, v, Out.bind h⟩) fun us s1 hh => ?_) he hpl
  obtain ⟨vs, H1, I1, r, args, z1, rfl, eq, x1, k1, q, h1⟩ := hh
  exact ⟨I1.kIn, run_fnS F hr gd hb tk I1 r k1 q h1⟩
theorem s_call0 {k : Nat} {f : Addr} {fd : FuncData} {ps : List Str} {m : Fn} {x : Str} {p pos : Pos} (F : FnS X.prog X.w X.K M X.mg X.base k f fd ps m) (hr : Room k X.A) (gd : X.A.guards = some [])
    (hm : X.mg x = some (.ref f)) (hk : PySem.W.keepIn X.K (.ref f) = true) (hb : Binds X.K fd ps []) (tk : Takes X W) (hg : Gl X x := by rfl) (hdb : (x == ("__debug__" : Str)) = false := by decide) : SE X M W (.Call (.Name x p) [] [] pos) (callF m nilA) := by
  refine ⟨fun pins s σ H Q I h => ?_⟩
  obtain ⟨env, z, rfl, kz, v, h⟩ := h
  refine wpAny_Call_Name_kw (ld_glob I hg hm ?_ hdb)
  exact PySem.W.callWith_K0 I.kIn hk (run_fnS (us := []) F hr gd hb tk I .nil kz .nil h)
end
end Sm
namespace Sm
open PySem PySem.Spec PyProof.Rows L2
def LINE : Nat := 16777216
theorem line_eq : LINE = sizeLine := sizeLine_eq.symm
def getL (d : D) (S : Sto) : Option (List D) := match d with
  | .lst l => some l
  | .ref n => match S[n]? with
    | some (.lst _ l) => some l
    | _ => none
  | _ => none
section
variable {X : Cx} {M : Lm} {W : WX} {K : PySem.W.Frag} {z : Sg}
theorem getL_rd {d : D} {v : V} {l : List D} (k : SOk K M z) (q : EncA K M z d v) (e : getL d z.S = some l) : ∃ a vs, v = .ref a ∧ Rl K z.H a vs ∧ EncL K M z.H z.ow l vs := by
  cases d with
  | lst l' =>
    cases q with
    | of q =>
      cases q with
      | lst r h =>
        cases e
        exact ⟨_, _, rfl, r.rl, h⟩
  | ref n =>
    have e' : (match z.S[n]? with
      | some (.lst _ l) => some l
      | _ => none) = some l := e
    cases r : z.S[n]? with
    | none =>
      rw [r] at e'
      cases e'
    | some o =>
      rw [r] at e'
      cases o with
      | dic fz l => cases e'
      | arr l => cases e'
      | dar ks l => cases e'
      | ins c ks l => cases e'
      | tpl l => cases e'
      | lst fz l' =>
        have e2 : some l' = some l := e'
        cases e2
        obtain ⟨a, vs, rfl, _, h1, h2⟩ := ref_lst k q r
        exact ⟨a, vs, rfl, .inl (.inl h1), h2⟩
  | _ => cases e
theorem getL_ok {d : D} {v : V} {l : List D} (k : SOk K M z) (q : EncA K M z d v) (e : getL d z.S = some l) : ∃ a vs, v = .ref a ∧ SqL K z.H a vs ∧ EncL K M z.H z.ow l vs := by
  obtain ⟨a, vs, h1, h2, h3⟩ := getL_rd k q e
  exact ⟨a, vs, h1, h2.sq, h3⟩
theorem rdM {pins : List (Addr × Obj)} {σ : St} {H : Hp} {s : Shared} {a : Addr} {xs : List V} (I : Inv X pins σ H s) (h : Rl X.K H a xs) :
    xs.length ≤ sizeLine ∧ ∃ (its : List Value) (n : Nat), Vals xs its ∧ xs.length = its.length ∧ s.heap.get? a = some { cls := .type "list", data := .seq its.toArray n } := by
  rcases h with h | ⟨its, n, h1, h2, h3⟩
  · obtain ⟨z, its, n, r, e⟩ := h.ok I.hok
    exact ⟨z, its, n, r, r.length, e⟩
  · have hl := h3.length
    have hl2 : its.toList.length = its.size := Array.length_toList
    exact ⟨by omega, its.toList, n, h3, hl, by
      rw [Array.toArray_toList]
      exact I.kIn a _ h1⟩
theorem out_lst {σ : St} {Q : VK} {l : List D} {vs : List V} (k : SOk K M z) (e : EncL K M z.H z.ow l vs) (h : Out K M (EncA K M) W σ z Q (.ok (.lst l) z.S)) : ∀ p, z.H p = none → Q (.ref p) (upd z.H p (.lst vs)) := fun p np =>
  h (z.put p (.lst vs)) (.ref p) rfl (ext_put np k) (sok_put np k) (.of (.lst (.inl ⟨.inl at_put, now_put np k⟩) (e.mv (ext_put np k).mv)))
theorem out_tup {σ : St} {Q : VK} {l : List D} {vs : List V} (k : SOk K M z) (e : EncL K M z.H z.ow l vs) (h : Out K M (EncA K M) W σ z Q (.ok (.tup l) z.S)) : NewT z.H Q vs := fun p o np nd =>
  h (z.put p (.frz o (.tup vs))) (.ref p) rfl (ext_put np k) (sok_put np k) (.of (.tup (.inl (.inr ⟨o, at_put⟩)) (.inl (.inl ⟨o, _, at_put, nd⟩)) (e.mv (ext_put np k).mv)))
theorem encA_tup {l : List D} {v : V} (q : EncA K M z (.tup l) v) : ∃ a vs, v = .ref a ∧ SqT K z.H a vs ∧ EncL K M z.H z.ow l vs := by
  cases q with
  | of q =>
    cases q with
    | tup h nd e => exact ⟨_, _, rfl, h, e⟩
def binF (op : D → D → Sto → Res D) (f g : Env → Sto → Res D) : Env → Sto → Res D := fun env S => (f env S).bind fun x S1 => (g env S1).bind fun y S2 => op x y S2
def rOp (K : PySem.W.Frag) (M : Lm) (W : WX) (op : D → D → Sto → Res D) : R2 := fun x y H Q => ∃ z a b σ, z.H = H ∧ SOk K M z ∧ EncA K M z a x ∧ EncA K M z b y ∧ Out K M (EncA K M) W σ z Q (op a b z.S)
theorem top_of {op : D → D → Sto → Res D} {f g : Env → Sto → Res D} {σ : St} {H : Hp} {Q : VK} (h : tE K M W (binF op f g) σ H Q) : tOp (rOp K M W op) (tE K M W f) (tE K M W g) σ H Q := by
  obtain ⟨env, z, rfl, k, v, h⟩ := h
  refine ⟨env, z, rfl, k, v, (Out.bind h).imp fun b H1 q => ?_⟩
  obtain ⟨a, z1, rfl, _, x, k1, q, h1⟩ := q
  refine ⟨env, z1, rfl, k1, v.ext x, (Out.bind h1).imp fun b2 H2 q2 => ?_⟩
  obtain ⟨a2, z2, rfl, _, x2, k2, q2, h2⟩ := q2
  exact ⟨z2, a, a2, σ, rfl, k2, q.ext x2, q2, h2⟩
theorem s_bin {op : Operator} {od : D → D → Sto → Res D} {a b : Expr} {pos : Pos} {f g : Env → Sto → Res D} (ho : OpR X (binaryOp op) (rOp X.K M W od)) (ha : SE X M W a f) (hb : SE X M W b g) : SE X M W (.BinOp a op b pos) (binF od f g) :=
  pe_imp (pe_op ho ha hb) fun _ _ _ h => top_of h
theorem s_cmp {op : CmpOp} {od : D → D → Sto → Res D} {a b : Expr} {pos : Pos} {f g : Env → Sto → Res D} (ho : OpR X (compareOp op) (rOp X.K M W od)) (ha : SE X M W a f) (hb : SE X M W b g) (hm : behindInMarks op b = false := by first | exact nomark _ | rfl) :
    SE X M W (.Compare a [op] [b] pos) (binF od f g) :=
  pe_imp (pe_cmpR ho ha hb hm) fun _ _ _ h => top_of h
theorem st_cmp {op : CmpOp} {od : D → D → Sto → Res D} {a b : Expr} {pos : Pos} {f g : Env → Sto → Res D} (ho : OpR X (compareOp op) (rOp X.K M W od)) (ha : SE X M W a f) (hb : SE X M W b g) (hm : behindInMarks op b = false := by first | exact nomark _ | rfl) :
    ST X M W (.Compare a [op] [b] pos) (isB (binF od f g)) := by
  refine pt_imp (pt_cmpR ho ha hb hm) fun σ H Q h => ?_
  obtain ⟨env, z, rfl, k, v, h⟩ := h
  have h2 : tOp (rOp X.K M W od) (tE X.K M W f) (tE X.K M W g) σ z.H (fun x H' => ∃ k, x = .bl k ∧ Q k H') := by
    refine top_of ⟨env, z, rfl, k, v, (Out.bind h).imp fun b H1 q => ?_⟩
    obtain ⟨a, z1, rfl, _, x, k1, q, h1⟩ := q
    cases a with
    | bl c => exact ⟨c, encA_bl q, h1 z1 c rfl (Ext.refl z1) k1 rfl⟩
    | _ => exact h1.elim
  exact h2
theorem op_of {f : Value → Value → Sem Value} {od : D → D → Sto → Res D}
    (h : ∀ (a b : D) (x y : V) (z : Sg) (σ' : St) (Q : VK), SOk X.K M z → EncA X.K M z a x → EncA X.K M z b y → Out X.K M (EncA X.K M) W σ' z Q (od a b z.S) →
      ∃ r, OpR X f r ∧ r x y z.H Q) : OpR X f (rOp X.K M W od) := by
  intro pins s σ H x y v u Q I rx ry hh
  obtain ⟨z, a, b, σ', rfl, k, qa, qb, h1⟩ := hh
  obtain ⟨r, h2, h3⟩ := h a b x y z σ' Q k qa qb h1
  exact h2 pins s σ z.H x y v u Q I rx ry h3
theorem out_int {σ : St} {Q : VK} {i : Int} (k : SOk K M z) (h : Out K M (EncA K M) W σ z Q (.ok (.int i) z.S)) : Q (.int i) z.H := h z _ rfl (Ext.refl z) k (.of (.int i))
theorem out_str {σ : St} {Q : VK} {i : List Nat} (k : SOk K M z) (h : Out K M (EncA K M) W σ z Q (.ok (.str i) z.S)) : Q (.str ⟨i.toArray⟩) z.H := h z _ rfl (Ext.refl z) k (.of (.str i))
theorem out_bl {σ : St} {Q : VK} {i : Bool} (k : SOk K M z) (h : Out K M (EncA K M) W σ z Q (.ok (.bl i) z.S)) : Q (.bl i) z.H := h z _ rfl (Ext.refl z) k (.of (.bl i))
theorem out_same {σ : St} {Q : VK} {d : D} {v : V} (k : SOk K M z) (q : EncA K M z d v) (h : Out K M (EncA K M) W σ z Q (.ok d z.S)) : Q v z.H := h z _ rfl (Ext.refl z) k q
def catD (a b : D) (S : Sto) : Res D := match getL a S, getL b S with
  | some s, some t => if s.length + t.length ≤ LINE then .ok (.lst (s ++ t)) S else .bad
  | _, _ => .bad
def addD (a b : D) (S : Sto) : Res D := match a, b with
  | .int i, .int j => .ok (.int (i + j)) S
  | .str s, .str t => if s.length + t.length ≤ LINE then .ok (.str (s ++ t)) S else .bad
  | .tup s, .tup t => if s.length + t.length ≤ LINE then .ok (.tup (s ++ t)) S else .bad
  | a, b => catD a b S
def rCatL (K : PySem.W.Frag) : R2 := fun x y H Q => ∃ l b xs zs, x = .ref l ∧ y = .ref b ∧ Rl K H l xs ∧ Rl K H b zs ∧ xs.length + zs.length ≤ sizeLine ∧ ∀ p, H p = none → Q (.ref p) (upd H p (.lst (xs ++ zs)))
theorem op_catL : OpR X (binaryOp .Add) (rCatL X.K) := by
  intro pins s σ H x y v u Q I rx ry h
  obtain ⟨l, b, xs, zs, rfl, rfl, h1, h2, hz, q⟩ := h
  cases rx
  cases ry
  obtain ⟨za, its, n, r, hl, e⟩ := rdM I h1
  obtain ⟨zb, its2, n2, r2, hl2, e2⟩ := rdM I h2
  refine PySem.P.add_list e e2 ?_ (by
    rw [List.size_toArray, List.size_toArray]
    omega)
  rw [show its.toArray ++ its2.toArray = (its ++ its2).toArray by simp]
  refine ⟨.ref _, _, I.lnew (t' := s.toks) (r.append r2) ?_, rfl, q _ I.fresh⟩
  rw [List.length_append]
  omega
theorem cat_ok {a b : D} {x y : V} {σ' : St} {Q : VK} (k : SOk X.K M z) (qa : EncA X.K M z a x) (qb : EncA X.K M z b y) (h : Out X.K M (EncA X.K M) W σ' z Q (catD a b z.S)) : ∃ r, OpR X (binaryOp .Add) r ∧ r x y z.H Q := by
  unfold catD at h
  cases ha : getL a z.S with
  | none =>
    rw [ha] at h
    exact h.elim
  | some s =>
    cases hb : getL b z.S with
    | none =>
      rw [ha, hb] at h
      exact h.elim
    | some t =>
      rw [ha, hb] at h
      dsimp only at h
      by_cases c : s.length + t.length ≤ LINE
      · rw [if_pos c] at h
        obtain ⟨p, vs, rfl, r1, e1⟩ := getL_rd k qa ha
        obtain ⟨p2, vs2, rfl, r2, e2⟩ := getL_rd k qb hb
        exact ⟨_, op_catL, p, p2, vs, vs2, rfl, rfl, r1, r2, by
          rw [← e1.length, ← e2.length, ← line_eq]
          exact c, out_lst k (e1.app e2) h⟩
      · rw [if_neg c] at h
        exact h.elim
theorem add_ok : OpR X (binaryOp .Add) (rOp X.K M W addD) := op_of fun a b x y z σ' Q k qa qb h => by
  cases a with
  | int i =>
    cases b with
    | int j =>
      rw [encA_int qa, encA_int qb]
      exact ⟨_, op_add, i, j, rfl, rfl, out_int k h⟩
    | _ => exact cat_ok k qa qb h
  | str s =>
    cases b with
    | str t =>
      rw [encA_str qa, encA_str qb]
      have h' : Out X.K M (EncA X.K M) W σ' z Q (if s.length + t.length ≤ LINE then Res.ok (.str (s ++ t)) z.S else .bad) := h
      by_cases c : s.length + t.length ≤ LINE
      · rw [if_pos c] at h'
        refine ⟨_, op_add_str, _, _, rfl, rfl, ?_, ?_⟩
        · show s.toArray.size + t.toArray.size ≤ _
          rw [List.size_toArray, List.size_toArray, ← line_eq]
          exact c
        · have := out_str k h'
          rw [show (⟨s.toArray⟩ ++ ⟨t.toArray⟩ : Str) = ⟨(s ++ t).toArray⟩ by
            show (⟨s.toArray ++ t.toArray⟩ : Str) = _
            simp]
          exact this
      · rw [if_neg c] at h'
        exact h'.elim
    | _ => exact cat_ok k qa qb h
  | tup s =>
    cases b with
    | tup t =>
      have h' : Out X.K M (EncA X.K M) W σ' z Q (if s.length + t.length ≤ LINE then Res.ok (.tup (s ++ t)) z.S else .bad) := h
      by_cases c : s.length + t.length ≤ LINE
      · rw [if_pos c] at h'
        obtain ⟨p, vs, rfl, r1, e1⟩ := encA_tup qa
        obtain ⟨p2, vs2, rfl, r2, e2⟩ := encA_tup qb
        refine ⟨_, op_catN, p, p2, vs, vs2, rfl, rfl, r1, r2, by
          rw [← e1.length, ← e2.length, ← line_eq]
          exact c, fun hx => ?_, fun _ hy => ?_, fun _ _ => out_tup k (e1.app e2) h'⟩
        · have : s = [] := List.eq_nil_of_length_eq_zero (by rw [e1.length, hx]; rfl)
          subst this
          exact out_same k qb h'
        · have : t = [] := List.eq_nil_of_length_eq_zero (by rw [e2.length, hy]; rfl)
          subst this
          rw [List.append_nil] at h'
          exact out_same k qa h'
      · rw [if_neg c] at h'
        exact h'.elim
    | _ => exact cat_ok k qa qb h
  | _ => exact cat_ok k qa qb h
def intD (f : Int → Int → Int) (a b : D) (S : Sto) : Res D := match a, b with
  | .int i, .int j => .ok (.int (f i j)) S
  | _, _ => .bad
def intCD (c : Int → Int → Bool) (f : Int → Int → Int) (a b : D) (S : Sto) : Res D := match a, b with
  | .int i, .int j => if c i j = true then .ok (.int (f i j)) S else .bad
  | _, _ => .bad
def subD : D → D → Sto → Res D := intD (· - ·)
theorem intC_ok {f : Value → Value → Sem Value} {c : Int → Int → Bool} {C : Int → Int → Prop} {g : Int → Int → Int} (ho : OpR X f (rI C fun i j => .int (g i j))) (hc : ∀ i j, c i j = true → C i j) : OpR X f (rOp X.K M W (intCD c g)) := op_of fun a b x y z σ' Q k qa qb h => by
  cases a with
  | int i =>
    cases b with
    | int j =>
      have h' : Out X.K M (EncA X.K M) W σ' z Q (if c i j = true then Res.ok (.int (g i j)) z.S else .bad) := h
      by_cases e : c i j = true
      · rw [if_pos e] at h'
        rw [encA_int qa, encA_int qb]
        exact ⟨_, ho, i, j, rfl, rfl, hc i j e, out_int k h'⟩
      · rw [if_neg e] at h'
        exact h'.elim
    | _ => exact h.elim
  | _ => exact h.elim
theorem sub_ok : OpR X (binaryOp .Sub) (rOp X.K M W subD) := op_of fun a b x y z σ' Q k qa qb h => by
  cases a with
  | int i =>
    cases b with
    | int j =>
      rw [encA_int qa, encA_int qb]
      exact ⟨_, op_sub, i, j, rfl, rfl, out_int k h⟩
    | _ => exact h.elim
  | _ => exact h.elim
def cDiv (i j : Int) : Bool := decide (j ≠ 0) && !Builtin.divisionGoesByPylong i j
def cMod (_ j : Int) : Bool := decide (j ≠ 0)
def cPow (i j : Int) : Bool := decide (0 ≤ j) && decide ((Builtin.Int.intBits i : Int) * j ≤ 134217728)
def cMul (i j : Int) : Bool := decide (i.natAbs.log2 + j.natAbs.log2 < 100000000)
def fdivD : D → D → Sto → Res D := intCD cDiv Int.fdiv
def modD : D → D → Sto → Res D := intCD cMod Int.fmod
def powD : D → D → Sto → Res D := intCD cPow fun i j => i ^ j.toNat
theorem fdiv_ok : OpR X (binaryOp .FloorDiv) (rOp X.K M W fdivD) :=
  intC_ok (C := fun i j => j ≠ 0 ∧ Builtin.divisionGoesByPylong i j = false) (opI fun i j _ _ _ _ _ hc q => floordiv_int hc.1 q (.inl hc.2)) fun i j h => by
    unfold cDiv at h
    rw [Bool.and_eq_true] at h
    exact ⟨of_decide_eq_true h.1, by simpa using h.2⟩
theorem mod_ok : OpR X (binaryOp .Mod) (rOp X.K M W modD) := intC_ok op_modN fun i j h => of_decide_eq_true h
theorem pow_ok : OpR X (binaryOp .Pow) (rOp X.K M W powD) := intC_ok (C := fun i j => 0 ≤ j ∧ (Builtin.Int.intBits i : Int) * j ≤ 134217728) (opI fun _ _ _ _ _ _ _ hc q => pow_int hc.1 (by
    have e : (2 : Int) ^ 27 = 134217728 := by decide
    rw [e]
    exact hc.2) q) fun i j h => by
  unfold cPow at h
  rw [Bool.and_eq_true] at h
  exact ⟨of_decide_eq_true h.1, of_decide_eq_true h.2⟩
theorem mul_int_ok : OpR X (binaryOp .Mult) (rOp X.K M W (intCD cMul (· * ·))) :=
  intC_ok (C := fun i j => i.natAbs.log2 + j.natAbs.log2 < 100000000) (opI fun i j _ _ _ _ _ hc q => mul_int q (by
    have b : ∀ x : Int, Builtin.Int.intBits x ≤ x.natAbs.log2 + 1 := fun x => by
      unfold Builtin.Int.intBits
      split <;> omega
    have h1 := b i
    have h2 := b j
    have e : bitsLine = 134217728 := by decide
    unfold IntMulOk
    intro zz
    rw [Bool.and_eq_true] at zz
    have z2 := zz.2
    unfold Builtin.Int.intTooBig at z2
    have z3 := of_decide_eq_true z2
    rw [e] at z3
    omega)) fun i j h => of_decide_eq_true h
end
end Sm
namespace Sm
open PySem PySem.Spec PyProof.Rows L2
mutual
def py : D → PyData
  | .non => .none
  | .bl b => .bool b
  | .int i => .int i
  | .str s => .str ⟨s.toArray⟩
  | .tup l => .tuple (pyL l)
  | .lst l => .list (pyL l)
  | .dic _ => .none
  | .ref _ => .none
  | .exc _ _ => .none
  | .cls _ => .none
  | .ty _ => .none
  | .fn => .none
def pyL : List D → List PyData
  | [] => []
  | d :: l => py d :: pyL l
end
mutual
def okD : Nat → D → Bool
  | _, .non => true
  | _, .bl _ => true
  | _, .int _ => true
  | _, .str s => s.all (· < 0x110000)
  | 0, _ => false
  | n + 1, .tup l => okL n l
  | n + 1, .lst l => okL n l
  | _, _ => false
def okL : Nat → List D → Bool
  | _, [] => true
  | n, d :: l => okD n d && okL n l
end
mutual
def eqV : D → D → Bool
  | .non, .non => true
  | .bl a, .bl b => a == b
  | .bl a, .int j => (if a then 1 else 0) == j
  | .int i, .bl b => i == (if b then 1 else 0)
  | .int i, .int j => i == j
  | .str x, .str y => x == y
  | .lst a, .lst b => eqVL a b
  | .tup a, .tup b => eqVL a b
  | _, _ => false
def eqVL : List D → List D → Bool
  | [], [] => true
  | a :: l, b :: r => eqV a b && eqVL l r
  | _, _ => false
end
theorem str_eq (x y : List Nat) : ((⟨x.toArray⟩ : Str) == ⟨y.toArray⟩) = (x == y) := by
  rw [Bool.eq_iff_iff]
  simp
mutual
theorem eqV_py : ∀ (a b : D) (n m : Nat), okD n a = true → okD m b = true → PyData.eqv (py a) (py b) = eqV a b
  | .non, b, n, m, h, k => by cases b <;> first | rfl | (cases m <;> simp [okD] at k)
  | .bl x, b, n, m, h, k => by cases b <;> first | rfl | (cases m <;> simp [okD] at k)
  | .int x, b, n, m, h, k => by cases b <;> first | rfl | (cases m <;> simp [okD] at k)
  | .str x, b, n, m, h, k => by
    cases b <;> first
      | rfl
      | (cases m <;> simp [okD] at k; done)
      | (simp only [py, PyData.eqv, eqV]; exact str_eq _ _)
  | .tup x, b, n, m, h, k => by
    cases n with
    | zero => simp [okD] at h
    | succ n =>
      cases b <;> first
        | rfl
        | (cases m <;> simp [okD] at k; done)
        | skip
      cases m with
      | zero => simp [okD] at k
      | succ m =>
        simp only [py, PyData.eqv, eqV]
        exact eqVL_py x _ n m (by simpa [okD] using h) (by simpa [okD] using k)
  | .lst x, b, n, m, h, k => by
    cases n with
    | zero => simp [okD] at h
    | succ n =>
      cases b <;> first
        | rfl
        | (cases m <;> simp [okD] at k; done)
        | skip
      cases m with
      | zero => simp [okD] at k
      | succ m =>
        simp only [py, PyData.eqv, eqV]
        exact eqVL_py x _ n m (by simpa [okD] using h) (by simpa [okD] using k)
  | .dic x, b, n, m, h, k => by cases n <;> simp [okD] at h
  | .ref x, b, n, m, h, k => by cases n <;> simp [okD] at h
  | .exc x l, b, n, m, h, k => by cases n <;> simp [okD] at h
  | .cls x, b, n, m, h, k => by cases n <;> simp [okD] at h
  | .ty x, b, n, m, h, k => by cases n <;> simp [okD] at h
  | .fn, b, n, m, h, k => by cases n <;> simp [okD] at h
theorem eqVL_py : ∀ (a b : List D) (n m : Nat), okL n a = true → okL m b = true → PyData.eqvAll (pyL a) (pyL b) = eqVL a b
  | [], b, n, m, h, k => by cases b <;> rfl
  | x :: l, b, n, m, h, k => by
    cases b with
    | nil => rfl
    | cons y r =>
      have h' : okD n x = true ∧ okL n l = true := by simpa [okL] using h
      have k' : okD m y = true ∧ okL m r = true := by simpa [okL] using k
      simp only [pyL, PyData.eqvAll, eqVL]
      rw [eqV_py x y n m h'.1 k'.1, eqVL_py l r n m h'.2 k'.2]
end
mutual
theorem shaped_py : ∀ (d : D) (n : Nat), okD n d = true → (py d).canLay0 = true ∧ (py d).depth ≤ n
  | .non, _, _ => ⟨rfl, Nat.zero_le _⟩
  | .bl _, _, _ => ⟨rfl, Nat.zero_le _⟩
  | .int _, _, _ => ⟨rfl, Nat.zero_le _⟩
  | .str s, n, h => by
    refine ⟨?_, Nat.zero_le _⟩
    have h' : s.all (· < 0x110000) = true := by cases n <;> simpa [okD] using h
    show PyData.strOk ⟨s.toArray⟩ = true
    unfold PyData.strOk
    simpa using h'
  | .tup l, 0, h => by simp [okD] at h
  | .tup l, n + 1, h => by
    have q := shapedL_py l n (by simpa [okD] using h)
    refine ⟨by simp only [py, PyData.canLay0]; exact q.1, ?_⟩
    simp only [py, PyData.depth]
    omega
  | .lst l, 0, h => by simp [okD] at h
  | .lst l, n + 1, h => by
    have q := shapedL_py l n (by simpa [okD] using h)
    refine ⟨by simp only [py, PyData.canLay0]; exact q.1, ?_⟩
    simp only [py, PyData.depth]
    omega
  | .dic x, n, h => by cases n <;> simp [okD] at h
  | .ref x, n, h => by cases n <;> simp [okD] at h
  | .exc x l, n, h => by cases n <;> simp [okD] at h
  | .cls x, n, h => by cases n <;> simp [okD] at h
  | .ty x, n, h => by cases n <;> simp [okD] at h
  | .fn, n, h => by cases n <;> simp [okD] at h
theorem shapedL_py : ∀ (l : List D) (n : Nat), okL n l = true → PyData.canLayAll0 (pyL l) = true ∧ PyData.depthAll (pyL l) ≤ n
  | [], _, _ => ⟨rfl, Nat.zero_le _⟩
  | d :: l, n, h => by
    have h' : okD n d = true ∧ okL n l = true := by simpa [okL] using h
    have q1 := shaped_py d n h'.1
    have q2 := shapedL_py l n h'.2
    refine ⟨by simp only [pyL, PyData.canLayAll0]; rw [q1.1, q2.1]; rfl, ?_⟩
    simp only [pyL, PyData.depthAll]
    exact Nat.max_le.mpr ⟨q1.2, q2.2⟩
end
theorem shaped_of {d : D} (h : okD 60 d = true) : SeqAt.shaped (py d) = true := by
  have q := shaped_py d 60 h
  unfold SeqAt.shaped
  rw [q.1, Bool.true_and]
  exact decide_eq_true (Nat.le_trans q.2 (by decide))
mutual
theorem enc_dp {K : PySem.W.Frag} {M : Lm} {H : Hp} {ow : Addr → Prop} : ∀ (d : D) (n : Nat) (v : V), okD n d = true → Enc K M H ow d v → Dp K H v (py d)
  | .non, _, _, _, h => by
    cases h
    exact .non
  | .bl b, _, _, _, h => by
    cases h
    exact .bl b
  | .int b, _, _, _, h => by
    cases h
    exact .int b
  | .str b, _, _, _, h => by
    cases h
    exact .str _
  | .tup l, 0, _, k, _ => by simp [okD] at k
  | .tup l, n + 1, _, k, h => by
    cases h with
    | tup hs nd hl => exact .tup hs (encL_dp l n _ (by simpa [okD] using k) hl)
  | .lst l, 0, _, k, _ => by simp [okD] at k
  | .lst l, n + 1, _, k, h => by
    cases h with
    | lst hs hl => exact .lst hs.rl.sq (encL_dp l n _ (by simpa [okD] using k) hl)
  | .dic x, n, _, h, _ => by cases n <;> simp [okD] at h
  | .ref x, n, _, h, _ => by cases n <;> simp [okD] at h
  | .exc x l, n, _, h, _ => by cases n <;> simp [okD] at h
  | .cls x, n, _, h, _ => by cases n <;> simp [okD] at h
  | .ty x, n, _, h, _ => by cases n <;> simp [okD] at h
theorem encL_dp {K : PySem.W.Frag} {M : Lm} {H : Hp} {ow : Addr → Prop} : ∀ (l : List D) (n : Nat) (vs : List V), okL n l = true → EncL K M H ow l vs → DpAll K H vs (pyL l)
  | [], _, _, _, h => by
    cases h
    exact .nil
  | d :: l, n, _, k, h => by
    have k' : okD n d = true ∧ okL n l = true := by simpa [okL] using k
    cases h with
    | cons a b => exact .cons (enc_dp d n _ k'.1 a) (encL_dp l n _ k'.2 b)
end
def see (d : D) (S : Sto) : D := match d with
  | .ref n => match S[n]? with
    | some (.lst _ l) => .lst l
    | some (.dic _ l) => .dic l
    | some (.arr _) => .fn
    | some (.dar _ _) => .fn
    | some (.ins _ _ _) => .fn
    | some (.tpl _) => .fn
    | none => .non
  | d => d
section
variable {X : Cx} {M : Lm} {W : WX} {K : PySem.W.Frag} {z : Sg}
theorem see_dp {d : D} {v : V} (k : SOk K M z) (q : EncA K M z d v) (h : okD 60 (see d z.S) = true) (hr : ∀ n, d = .ref n → z.S[n]? ≠ none) : Dp K z.H v (py (see d z.S)) := by
  by_cases hd : ∃ n, d = .ref n
  · obtain ⟨n, rfl⟩ := hd
    have hr' := hr n rfl
    cases r : z.S[n]? with
    | none => exact absurd r hr'
    | some o =>
      unfold see at h ⊢
      dsimp only at h ⊢
      rw [r] at h ⊢
      cases o with
      | lst fz l =>
        obtain ⟨a, vs, rfl, _, h1, h2⟩ := ref_lst k q r
        have h' : okL 59 l = true := by simpa [okD] using h
        exact .lst (SqL.of h1) (encL_dp l 59 _ h' h2)
      | dic fz l => simp [okD] at h
      | arr l => simp [okD] at h
      | dar ks l => simp [okD] at h
      | ins c ks l => simp [okD] at h
      | tpl l => simp [okD] at h
  · have hn : ∀ n, d ≠ .ref n := fun n e => hd ⟨n, e⟩
    have e : see d z.S = d := by
      cases d <;> first | rfl | exact absurd rfl (hn _)
    rw [e] at h ⊢
    exact enc_dp d 60 v h (q.enc hn fun z => by
      subst z
      simp [okD] at h)
def hasR (d : D) (S : Sto) : Bool := match d with
  | .ref n => match S[n]? with
    | some _ => true
    | none => false
  | _ => true
theorem hasR_ok {d : D} {S : Sto} (h : hasR d S = true) : ∀ n, d = .ref n → S[n]? ≠ none := by
  rintro n rfl
  unfold hasR at h
  dsimp only at h
  cases r : S[n]? with
  | none =>
    rw [r] at h
    cases h
  | some o => exact fun z => nomatch z
def plain (d : D) (S : Sto) : Bool := hasR d S && okD 60 (see d S)
theorem plain_dp {d : D} {v : V} (k : SOk K M z) (q : EncA K M z d v) (h : plain d z.S = true) : Dp K z.H v (py (see d z.S)) ∧ okD 60 (see d z.S) = true := by
  unfold plain at h
  rw [Bool.and_eq_true] at h
  exact ⟨see_dp k q h.2 (hasR_ok h.1), h.2⟩
def eqP (f : Bool → Bool) (a b : D) (S : Sto) : Res D := if (plain a S && plain b S) = true then .ok (.bl (f (eqV (see a S) (see b S)))) S else .bad
def eqG (f : Bool → Bool) (a b : D) (S : Sto) : Res D := match a, b with
  | .str x, .str y => .ok (.bl (f (decide (x = y)))) S
  | a, b => eqP f a b S
def eqD : D → D → Sto → Res D := eqG id
def neD : D → D → Sto → Res D := eqG not
theorem dec_str {x y : List Nat} : decide (V.str ⟨x.toArray⟩ = V.str ⟨y.toArray⟩) = decide (x = y) := by
  rw [Bool.eq_iff_iff]
  simp
theorem eqG_ok {f : Bool → Bool} {op : CmpOp} (ho : OpR X (compareOp op) (fun x y H Q => ∃ d e, Dp X.K H x d ∧ Dp X.K H y e ∧ SeqAt.shaped d = true ∧ SeqAt.shaped e = true ∧ Q (.bl (f (PyData.eqv d e))) H)) (hs : OpR X (compareOp op) (fun x y H Q => scal x y = true ∧ Q (.bl (f (decide (x = y)))) H)) :
    OpR X (compareOp op) (rOp X.K M W (eqG f)) := op_of fun a b x y z σ' Q k qa qb h => by
  have deep : Out X.K M (EncA X.K M) W σ' z Q (eqP f a b z.S) → ∃ r, OpR X (compareOp op) r ∧ r x y z.H Q := fun h => by
    unfold eqP at h
    by_cases c : (plain a z.S && plain b z.S) = true
    · rw [if_pos c] at h
      rw [Bool.and_eq_true] at c
      obtain ⟨d1, o1⟩ := plain_dp k qa c.1
      obtain ⟨d2, o2⟩ := plain_dp k qb c.2
      refine ⟨_, ho, _, _, d1, d2, shaped_of o1, shaped_of o2, ?_⟩
      rw [eqV_py _ _ 60 60 o1 o2]
      exact out_bl k h
    · rw [if_neg c] at h
      exact h.elim
  cases a with
  | str s =>
    cases b with
    | str t =>
      have h' : Out X.K M (EncA X.K M) W σ' z Q (.ok (.bl (f (decide (s = t)))) z.S) := h
      rw [encA_str qa, encA_str qb]
      refine ⟨_, hs, rfl, ?_⟩
      rw [dec_str]
      exact out_bl k h'
    | _ => exact deep h
  | _ => exact deep h
theorem eq_ok (hu : X.A.units + 64 < cLine) : OpR X (compareOp .Eq) (rOp X.K M W eqD) := eqG_ok (op_eqD hu) op_eq
theorem ne_ok (hu : X.A.units + 64 < cLine) : OpR X (compareOp .NotEq) (rOp X.K M W neD) := eqG_ok (op_neD hu) op_ne
theorem pyL_map (l : List D) : pyL l = l.map py := by
  induction l with
  | nil => rfl
  | cons d l ih => rw [pyL, ih, List.map_cons]
theorem any_py {l : List D} {d : D} {n m : Nat} (h : okL n l = true) (k : okD m d = true) : ((pyL l).any fun y => PyData.eqv y (py d)) = l.any fun y => eqV y d := by
  induction l with
  | nil => rfl
  | cons x l ih =>
    have h' : okD n x = true ∧ okL n l = true := by simpa [okL] using h
    rw [pyL, List.any_cons, List.any_cons, ih h'.2, eqV_py x d n m h'.1 k]
def inD (neg : Bool) (a b : D) (S : Sto) : Res D := match a, see b S with
  | .str [c], .str s => .ok (.bl (if neg then !decide (c ∈ s) else decide (c ∈ s))) S
  | a, .lst l => if (plain a S && (hasR b S && okD 60 (.lst l))) = true then .ok (.bl (if neg then !l.any fun y => eqV y (see a S) else l.any fun y => eqV y (see a S))) S else .bad
  | a, .tup l => if (plain a S && (hasR b S && okD 60 (.tup l))) = true then .ok (.bl (if neg then !l.any fun y => eqV y (see a S) else l.any fun y => eqV y (see a S))) S else .bad
  | _, _ => .bad
def rInAll (K : PySem.W.Frag) (neg : Bool) : R2 := fun x y H Q => ∃ d ds, Dp K H x d ∧ (Dp K H y (.list ds) ∨ Dp K H y (.tuple ds)) ∧ SeqAt.shaped d = true ∧ PyData.canLayAll0 ds = true ∧ Q (.bl (if neg then !ds.any fun z => PyData.eqv z d else ds.any fun z => PyData.eqv z d)) H
theorem op_inAll (hu : X.A.units + 65 < cLine) : OpR X (compareOp .In) (rInAll X.K false) := by
  intro pins s σ H x y v u Q I rx ry h
  obtain ⟨d, ds, hd, he, sd, se, q⟩ := h
  obtain ⟨as, r1⟩ := Dp.reads I d x v hd rx
  rcases he with he | he
  · obtain ⟨bs, r2⟩ := Dp.reads I _ y u he ry
    exact SeqAt.in_list_reads r2 r1 se (SeqAt.canLay_of_shaped sd) (room_in_shaped sd hu) ⟨.bl _, H, I, rfl, q⟩
  · obtain ⟨bs, r2⟩ := Dp.reads I _ y u he ry
    exact SeqAt.in_tuple_reads r2 r1 se (SeqAt.canLay_of_shaped sd) (room_in_shaped sd hu) ⟨.bl _, H, I, rfl, q⟩
theorem in_data {neg : Bool} {op : CmpOp} (ho : OpR X (compareOp op) (rInAll X.K neg)) {a b : D} {x y : V} {σ' : St} {Q : VK} {l : List D} (k : SOk X.K M z) (qa : EncA X.K M z a x) (qb : EncA X.K M z b y)
    (hb : see b z.S = .lst l ∨ see b z.S = .tup l) (h : Out X.K M (EncA X.K M) W σ' z Q (if (plain a z.S && (hasR b z.S && okD 60 (see b z.S))) = true then .ok (.bl (if neg then !l.any fun y => eqV y (see a z.S) else l.any fun y => eqV y (see a z.S))) z.S else .bad)) :
    ∃ r, OpR X (compareOp op) r ∧ r x y z.H Q := by
  by_cases c : (plain a z.S && (hasR b z.S && okD 60 (see b z.S))) = true
  · rw [if_pos c] at h
    rw [Bool.and_eq_true] at c
    obtain ⟨d1, o1⟩ := plain_dp k qa c.1
    obtain ⟨d2, o2⟩ := plain_dp k qb c.2
    have hl : okL 59 l = true ∧ (Dp X.K z.H y (.list (pyL l)) ∨ Dp X.K z.H y (.tuple (pyL l))) := by
      rcases hb with hb | hb
      · rw [hb] at d2 o2
        exact ⟨by simpa [okD] using o2, .inl d2⟩
      · rw [hb] at d2 o2
        exact ⟨by simpa [okD] using o2, .inr d2⟩
    refine ⟨_, ho, _, pyL l, d1, hl.2, shaped_of o1, (shapedL_py l 59 hl.1).1, ?_⟩
    rw [any_py hl.1 o1]
    exact out_bl k h
  · rw [if_neg c] at h
    exact h.elim
theorem in_sgn {neg : Bool} {op : CmpOp} (hs : OpR X (compareOp op) (fun x y H Q => ∃ (c : Nat) (z : Str), x = .str ⟨#[c]⟩ ∧ y = .str z ∧ Q (.bl (if neg then !decide (c ∈ z.cps.toList) else decide (c ∈ z.cps.toList))) H)) (ho : OpR X (compareOp op) (rInAll X.K neg)) : OpR X (compareOp op) (rOp X.K M W (inD neg)) := op_of fun a b x y z σ' Q k qa qb h => by
  unfold inD at h
  cases hb : see b z.S with
  | str s =>
    rw [hb] at h
    have eb : b = .str s := by
      cases b with
      | ref n =>
        unfold see at hb
        dsimp only at hb
        split at hb <;> cases hb
      | _ => exact hb
    subst eb
    split at h
    · rename_i c s' e1
      cases e1
      rw [encA_str qa, encA_str qb]
      exact ⟨_, hs, c, _, rfl, rfl, by simpa using out_bl k h⟩
    · rename_i e1
      cases e1
    · rename_i e1
      cases e1
    · exact h.elim
  | lst l =>
    rw [hb] at h
    refine in_data (W := W) (σ' := σ') ho k qa qb (.inl hb) ?_
    rw [hb]
    split at h
    · rename_i e1
      cases e1
    · rename_i e1
      cases e1
      exact h
    · rename_i e1
      cases e1
    · exact h.elim
  | tup l =>
    rw [hb] at h
    refine in_data (W := W) (σ' := σ') ho k qa qb (.inr hb) ?_
    rw [hb]
    split at h
    · rename_i e1
      cases e1
    · rename_i e1
      cases e1
    · rename_i e1
      cases e1
      exact h
    · exact h.elim
  | _ =>
    rw [hb] at h
    split at h <;> first | exact h.elim | (rename_i e1; cases e1)
theorem in_ok (hu : X.A.units + 65 < cLine) : OpR X (compareOp .In) (rOp X.K M W (inD false)) := in_sgn op_in_sign (op_inAll hu)
def isNonD (neg : Bool) (a b : D) (S : Sto) : Res D := match a, b with
  | .non, .non => .ok (.bl !neg) S
  | _, .non => .ok (.bl neg) S
  | .bl x, .bl y => .ok (.bl (if neg then !decide (x = y) else decide (x = y))) S
  | _, _ => .bad
theorem encA_ne_non {d : D} {v : V} (q : EncA K M z d v) (h : d ≠ .non) : v ≠ .non := by
  cases q with
  | ref _ _ => exact fun z => nomatch z
  | of q => cases q <;> first | exact absurd rfl h | exact fun z => nomatch z
  | fn _ => exact fun z => nomatch z
theorem is_ok : OpR X (compareOp .Is) (rOp X.K M W (isNonD false)) := op_of fun a b x y z σ' Q k qa qb h => by
  by_cases hb : b = .non
  · subst hb
    rw [encA_non qb]
    refine ⟨_, op_isN, rfl, ?_⟩
    by_cases ha : a = .non
    · subst ha
      rw [encA_non qa]
      exact out_bl k h
    · rw [decide_eq_false (encA_ne_non qa ha)]
      cases a <;> first | exact absurd rfl ha | exact out_bl k h
  · cases a with
    | bl p =>
      cases b with
      | bl q =>
        rw [encA_bl qa, encA_bl qb]
        exact ⟨_, op_isBl, p, q, rfl, rfl, out_bl k h⟩
      | non => exact absurd rfl hb
      | _ => exact h.elim
    | _ => cases b <;> first | exact absurd rfl hb | exact h.elim
def ordD (f : Int → Int → Bool) (a b : D) (S : Sto) : Res D := match a, b with
  | .int i, .int j => .ok (.bl (f i j)) S
  | _, _ => .bad
def ltD : D → D → Sto → Res D := ordD fun i j => decide (i < j)
def leD : D → D → Sto → Res D := ordD fun i j => decide (i ≤ j)
def gtD : D → D → Sto → Res D := ordD fun i j => decide (j < i)
def geD : D → D → Sto → Res D := ordD fun i j => decide (j ≤ i)
theorem ord_ok {op : CmpOp} {g : Int → Int → Bool} (ho : OpR X (compareOp op) (rI0 fun i j => .bl (g i j))) : OpR X (compareOp op) (rOp X.K M W (ordD g)) := op_of fun a b x y z σ' Q k qa qb h => by
  cases a with
  | int i =>
    cases b with
    | int j =>
      rw [encA_int qa, encA_int qb]
      exact ⟨_, ho, i, j, rfl, rfl, out_bl k h⟩
    | _ => exact h.elim
  | _ => exact h.elim
theorem lt_ok : OpR X (compareOp .Lt) (rOp X.K M W ltD) := ord_ok op_lt
theorem le_ok : OpR X (compareOp .LtE) (rOp X.K M W leD) := ord_ok op_le
theorem gt_ok : OpR X (compareOp .Gt) (rOp X.K M W gtD) := ord_ok op_gt
theorem ge_ok : OpR X (compareOp .GtE) (rOp X.K M W geD) := ord_ok op_ge
end
end Sm
namespace Sm
open PySem PySem.Spec PyProof.Rows L2
section
variable {X : Cx} {M : Lm} {W : WX} {K : PySem.W.Frag} {z : Sg}
def chainF (o p : D → D → Sto → Res D) (f g h : Env → Sto → Res D) : Env → Sto → Res D := fun env S => (f env S).bind fun x S1 => (g env S1).bind fun y S2 => (o x y S2).bind fun c S3 => match c with
  | .bl true => (h env S3).bind fun w S4 => p y w S4
  | .bl false => .ok (.bl false) S3
  | _ => .bad
theorem tchain_of {o p : D → D → Sto → Res D} {f g h : Env → Sto → Res D} {σ : St} {H : Hp} {Q : VK} (hh : tE K M W (chainF o p f g h) σ H Q) : tChain (rOp K M W o) (rOp K M W p) (tE K M W f) (tE K M W g) (tE K M W h) σ H Q := by
  obtain ⟨env, z, rfl, k, v, hh⟩ := hh
  refine ⟨env, z, rfl, k, v, (Out.bind hh).imp fun b H1 q => ?_⟩
  obtain ⟨a1, z1, rfl, _, x1, k1, q1, h1⟩ := q
  refine ⟨env, z1, rfl, k1, v.ext x1, (Out.bind h1).imp fun b2 H2 q2 => ?_⟩
  obtain ⟨a2, z2, rfl, _, x2, k2, q2, h2⟩ := q2
  refine ⟨z2, a1, a2, σ, rfl, k2, q1.ext x2, q2, (Out.bind h2).imp fun b3 H3 q3 => ?_⟩
  obtain ⟨a3, z3, rfl, _, x3, k3, q3, h3⟩ := q3
  cases a3 with
  | bl c =>
    refine ⟨c, encA_bl q3, ?_⟩
    cases c with
    | true =>
      rw [if_pos rfl]
      refine ⟨env, z3, rfl, k3, v.ext (x1.trans (x2.trans x3)), (Out.bind h3).imp fun b4 H4 q4 => ?_⟩
      obtain ⟨a4, z4, rfl, _, x4, k4, q4, h4⟩ := q4
      exact ⟨z4, a2, a4, σ, rfl, k4, q2.ext (x3.trans x4), q4, h4⟩
    | false =>
      rw [if_neg Bool.false_ne_true]
      exact h3 z3 _ rfl (Ext.refl z3) k3 (.of (.bl false))
  | _ => exact h3.elim
theorem s_chain {op op' : CmpOp} {o p : D → D → Sto → Res D} {a b c : Expr} {pos : Pos} {f g h : Env → Sto → Res D} (ho : OpR X (compareOp op) (rOp X.K M W o)) (hp : OpR X (compareOp op') (rOp X.K M W p)) (ha : SE X M W a f) (hb : SE X M W b g) (hc : SE X M W c h)
    (hm : lastMarks [op, op'] [b, c] = false := by with_unfolding_all rfl) : SE X M W (.Compare a [op, op'] [b, c] pos) (chainF o p f g h) :=
  pe_imp (pe_chain ho hp ha hb hc hm) fun _ _ _ h => tchain_of h
theorem st_chain {op op' : CmpOp} {o p : D → D → Sto → Res D} {a b c : Expr} {pos : Pos} {f g h : Env → Sto → Res D} (ho : OpR X (compareOp op) (rOp X.K M W o)) (hp : OpR X (compareOp op') (rOp X.K M W p)) (ha : SE X M W a f) (hb : SE X M W b g) (hc : SE X M W c h)
    (hm : lastMarks [op, op'] [b, c] = false := by with_unfolding_all rfl) : ST X M W (.Compare a [op, op'] [b, c] pos) (isB (chainF o p f g h)) := by
  refine pt_imp (pt_chain ho hp ha hb hc hm) fun σ H Q hh => ?_
  obtain ⟨env, z, rfl, k, v, hh⟩ := hh
  refine tchain_of ⟨env, z, rfl, k, v, (Out.bind hh).imp fun b H1 q => ?_⟩
  obtain ⟨a, z1, rfl, _, x, k1, q, h1⟩ := q
  cases a with
  | bl c => exact ⟨c, encA_bl q, h1 z1 c rfl (Ext.refl z1) k1 rfl⟩
  | _ => exact h1.elim
def negF (f : Env → Sto → Res D) : Env → Sto → Res D := fun env S => (f env S).bind fun d S1 => match d with
  | .int i => .ok (.int (-i)) S1
  | _ => .bad
theorem s_neg {a : Expr} {pos : Pos} {f : Env → Sto → Res D} (ha : SE X M W a f) : SE X M W (.UnaryOp .USub a pos) (negF f) := by
  refine pe_imp (pe_un un_neg ha) fun σ H Q h => ?_
  obtain ⟨env, z, rfl, k, v, h⟩ := h
  refine ⟨env, z, rfl, k, v, (Out.bind h).imp fun b H1 q => ?_⟩
  obtain ⟨a, z1, rfl, _, x, k1, q, h1⟩ := q
  cases a with
  | int c => exact ⟨c, encA_int q, out_int k1 h1⟩
  | _ => exact h1.elim
def rCl (K : PySem.W.Frag) (M : Lm) (W : WX) (m : Fn) : List V → Hp → VK → Prop := fun xs H Q => ∃ z as σ, z.H = H ∧ SOk K M z ∧ EncAs K M z as xs ∧ Out K M (EncA K M) W σ z Q (m as z.S)
theorem tcb_of {m : Fn} {g : Env → Sto → Res (List D)} {σ : St} {H : Hp} {Q : VK} (h : tE K M W (callF m g) σ H Q) : tCB (rCl K M W m) (tAs K M W g) σ H Q := by
  obtain ⟨env, z, rfl, k, v, h⟩ := h
  refine ⟨env, z, rfl, k, v, (Out.bind h).imp fun b H1 q => ?_⟩
  obtain ⟨a, z1, rfl, _, x, k1, q, h1⟩ := q
  exact ⟨z1, a, σ, rfl, k1, q, h1⟩
theorem s_callB {id : String} {m : Fn} {x : Str} {p pos : Pos} {e : Expr} {es : List Expr} {g : Env → Sto → Res (List D)} (hc : CallR X (.builtin id) (rCl X.K M W m)) (hm : X.mg x = none) (ha : SA X M W (e :: es) g) (hg : Gl X x := by rfl) (hv : bootBuiltins x = some (.builtin id) := by decide +kernel)
    (hn : x ≠ "__name__" := by decide) (hdb : (x == ("__debug__" : Str)) = false := by decide) (he : starEach (e :: es) X.env = (false, eval e X.env) :: starEach es X.env := by rfl) (hpl : (backTo pos (starEach es X.env)).any (·.1) = false := by rfl) :
    SE X M W (.Call (.Name x p) (e :: es) [] pos) (callF m g) := pe_imp (pe_callB hc hg hm hv ha hn hdb he hpl) fun _ _ _ h => tcb_of h
theorem s_callTy {T : String} {m : Fn} {x : Str} {p pos : Pos} {e : Expr} {es : List Expr} {g : Env → Sto → Res (List D)} (hc : CallR X (.type T) (rCl X.K M W m)) (hm : X.mg x = none) (ha : SA X M W (e :: es) g) (hg : Gl X x := by rfl) (hv : bootBuiltins x = some (.type T) := by decide +kernel)
    (hn : x ≠ "__name__" := by decide) (hdb : (x == ("__debug__" : Str)) = false := by decide) (he : starEach (e :: es) X.env = (false, eval e X.env) :: starEach es X.env := by rfl) (hpl : (backTo pos (starEach es X.env)).any (·.1) = false := by rfl) :
    SE X M W (.Call (.Name x p) (e :: es) [] pos) (callF m g) := pe_imp (pe_callTy hc hg hm hv ha hn hdb he hpl) fun _ _ _ h => tcb_of h
theorem call_of {f : Value} {m : Fn} (h : ∀ (as : List D) (xs : List V) (z : Sg) (σ' : St) (Q : VK), SOk X.K M z → EncAs X.K M z as xs → Out X.K M (EncA X.K M) W σ' z Q (m as z.S) → ∃ r, CallR X f r ∧ r xs z.H Q) : CallR X f (rCl X.K M W m) := by
  intro pins s σ H xs us Q I rx hh
  obtain ⟨z, as, σ', rfl, k, qa, h1⟩ := hh
  obtain ⟨r, h2, h3⟩ := h as xs z σ' Q k qa h1
  exact h2 pins s σ z.H xs us Q I rx h3
def lenM : Fn := fun as S => match as with
  | [d] => match see d S with
    | .str s => if s.length ≤ LINE then .ok (.int s.length) S else .bad
    | .tup l => .ok (.int l.length) S
    | .lst l => if (getL d S).isSome then .ok (.int l.length) S else .bad
    | _ => .bad
  | _ => .bad
theorem see_lst {d : D} {S : Sto} {l : List D} (h : getL d S = some l) : see d S = .lst l := by
  cases d with
  | lst l' =>
    cases h
    rfl
  | ref n =>
    unfold getL at h
    unfold see
    dsimp only at h ⊢
    split at h
    · rename_i e
      cases h
      rw [e]
    · cases h
  | _ => cases h
theorem see_str {d : D} {S : Sto} {s : List Nat} (h : see d S = .str s) : d = .str s := by
  cases d with
  | ref n =>
    unfold see at h
    dsimp only at h
    split at h <;> cases h
  | _ => exact h
theorem see_tup {d : D} {S : Sto} {s : List D} (h : see d S = .tup s) : d = .tup s := by
  cases d with
  | ref n =>
    unfold see at h
    dsimp only at h
    split at h <;> cases h
  | _ => exact h
theorem len_ok : CallR X (.builtin "len") (rCl X.K M W lenM) := call_of fun as xs z σ' Q k qa h => by
  match as, qa, h with
  | [], _, h => exact h.elim
  | [d], qa, h =>
    obtain ⟨v, rfl, q⟩ := encAs1 qa
    unfold lenM at h
    dsimp only at h
    cases e : see d z.S with
    | str s =>
      rw [e] at h
      have := see_str e
      subst this
      rw [encA_str q]
      dsimp only at h
      by_cases c : s.length ≤ LINE
      · rw [if_pos c] at h
        refine ⟨_, call_len_str, _, rfl, ?_, ?_⟩
        · show s.toArray.size ≤ _
          rw [List.size_toArray, ← line_eq]
          exact c
        · have := out_int k h
          show Q (.int ((s.toArray.size : Nat) : Int)) z.H
          rw [List.size_toArray]
          exact this
      · rw [if_neg c] at h
        exact h.elim
    | tup l =>
      rw [e] at h
      have := see_tup e
      subst this
      obtain ⟨a, vs, rfl, hs, hl⟩ := encA_tup q
      refine ⟨_, call_len_seq, a, vs, rfl, .inr hs, ?_⟩
      rw [← hl.length]
      exact out_int k h
    | lst l =>
      rw [e] at h
      dsimp only at h
      cases g : getL d z.S with
      | none =>
        rw [g] at h
        exact h.elim
      | some l' =>
        rw [g] at h
        have e2 := see_lst g
        rw [e] at e2
        cases e2
        obtain ⟨a, vs, rfl, hs, hl⟩ := getL_ok k q g
        refine ⟨_, call_len_seq, a, vs, rfl, .inl hs, ?_⟩
        rw [← hl.length]
        exact out_int k h
    | _ =>
      rw [e] at h
      exact h.elim
  | _ :: _ :: _, _, h => exact h.elim
def absM : Fn := fun as S => match as with
  | [.int i] => .ok (.int (if i < 0 then -i else i)) S
  | _ => .bad
theorem abs_ok : CallR X (.builtin "abs") (rCl X.K M W absM) := call_of fun as xs z σ' Q k qa h => by
  unfold absM at h
  split at h
  · obtain ⟨v, rfl, q⟩ := encAs1 qa
    rw [encA_int q]
    exact ⟨_, call_abs, _, rfl, out_int k h⟩
  · exact h.elim
def max2M : Fn := fun as S => match as with
  | [.int i, .int j] => .ok (.int (if j > i then j else i)) S
  | _ => .bad
theorem max2_ok (hc : X.calm = true) : CallR X (.builtin "max") (rCl X.K M W max2M) := call_of fun as xs z σ' Q k qa h => by
  unfold max2M at h
  split at h
  · obtain ⟨v, w, rfl, q, q2⟩ := encAs2 qa
    rw [encA_int q, encA_int q2]
    exact ⟨_, call_max2 hc, _, _, rfl, out_int k h⟩
  · exact h.elim
def min2M : Fn := fun as S => match as with
  | [.int i, .int j] => .ok (.int (if j < i then j else i)) S
  | _ => .bad
theorem min2_ok (hc : X.calm = true) : CallR X (.builtin "min") (rCl X.K M W min2M) := call_of fun as xs z σ' Q k qa h => by
  unfold min2M at h
  split at h
  · obtain ⟨v, w, rfl, q, q2⟩ := encAs2 qa
    rw [encA_int q, encA_int q2]
    exact ⟨_, call_min2 hc, _, _, rfl, out_int k h⟩
  · exact h.elim
def intM : Fn := fun as S => match as with
  | [.int i] => .ok (.int i) S
  | [.bl b] => .ok (.int (if b then 1 else 0)) S
  | [.str s] => match PySem.intText? ⟨s.toArray⟩ with
    | some n => if s.length ≤ 640 then .ok (.int n) S else .bad
    | none => .bad
  | _ => .bad
theorem int_ok : CallR X (.type "int") (rCl X.K M W intM) := call_of fun as xs z σ' Q k qa h => by
  unfold intM at h
  split at h
  · obtain ⟨v, rfl, q⟩ := encAs1 qa
    rw [encA_int q]
    exact ⟨_, call_int1, .inl ⟨_, rfl, out_int k h⟩⟩
  · obtain ⟨v, rfl, q⟩ := encAs1 qa
    rw [encA_bl q]
    exact ⟨_, call_int1, .inr ⟨_, rfl, out_int k h⟩⟩
  · rename_i s
    obtain ⟨v, rfl, q⟩ := encAs1 qa
    rw [encA_str q]
    cases e : PySem.intText? ⟨s.toArray⟩ with
    | none =>
      rw [e] at h
      exact h.elim
    | some n =>
      rw [e] at h
      dsimp only at h
      by_cases c : s.length ≤ 640
      · rw [if_pos c] at h
        refine ⟨_, call_int_str, _, n, rfl, e, ?_, out_int k h⟩
        show s.toArray.size ≤ 640
        rw [List.size_toArray]
        exact c
      · rw [if_neg c] at h
        exact h.elim
  · exact h.elim
def tupleM : Fn := fun as S => match as with
  | [.tup l] => .ok (.tup l) S
  | [d] => match getL d S with
    | some l => .ok (.tup l) S
    | none => .bad
  | _ => .bad
theorem tuple_ok : CallR X (.type "tuple") (rCl X.K M W tupleM) := call_of fun as xs z σ' Q k qa h => by
  unfold tupleM at h
  split at h
  · obtain ⟨v, rfl, q⟩ := encAs1 qa
    obtain ⟨a, vs, rfl, hs, hl⟩ := encA_tup q
    exact ⟨_, call_tupleN, a, vs, rfl, .inr ⟨hs, out_same k q h⟩⟩
  · obtain ⟨v, rfl, q⟩ := encAs1 qa
    rename_i d _
    cases g : getL d z.S with
    | none =>
      rw [g] at h
      exact h.elim
    | some l =>
      rw [g] at h
      obtain ⟨a, vs, rfl, hs, hl⟩ := getL_ok k q g
      exact ⟨_, call_tupleN, a, vs, rfl, .inl ⟨hs, out_tup k hl h⟩⟩
  · exact h.elim
def allBl : List D → Option (List Bool)
  | [] => some []
  | .bl b :: l => (allBl l).map (b :: ·)
  | _ => none
theorem allBl_enc {H : Hp} {ow : Addr → Prop} : ∀ {l : List D} {vs : List V} {bs : List Bool}, allBl l = some bs → EncL K M H ow l vs → vs = bs.map V.bl
  | [], _, bs, h, e => by
    cases e
    cases h
    rfl
  | d :: l, _, bs, h, e => by
    cases e with
    | cons a b =>
      cases d with
      | bl c =>
        unfold allBl at h
        cases r : allBl l with
        | none =>
          rw [r] at h
          cases h
        | some bs' =>
          rw [r] at h
          cases h
          cases a
          rw [allBl_enc r b]
          rfl
      | _ => cases h
def boolsM (f : List Bool → Bool) : Fn := fun as S => match as with
  | [d] => match getL d S with
    | some l => match allBl l with
      | some bs => .ok (.bl (f bs)) S
      | none => .bad
    | none => .bad
  | _ => .bad
def allM : Fn := boolsM fun bs => bs.all id
theorem bools_ok {id : String} {f : List Bool → Bool} (hr : CallR X (.builtin id) (fun vs H Q => ∃ (a : Addr) (bs : List Bool), vs = [V.ref a] ∧ SqL X.K H a (bs.map V.bl) ∧ Q (.bl (f bs)) H)) : CallR X (.builtin id) (rCl X.K M W (boolsM f)) := call_of fun as xs z σ' Q k qa h => by
  unfold boolsM at h
  split at h
  · obtain ⟨v, rfl, q⟩ := encAs1 qa
    rename_i d
    cases g : getL d z.S with
    | none =>
      rw [g] at h
      exact h.elim
    | some l =>
      rw [g] at h
      dsimp only at h
      cases r : allBl l with
      | none =>
        rw [r] at h
        exact h.elim
      | some bs =>
        rw [r] at h
        obtain ⟨a, vs, rfl, hs, hl⟩ := getL_ok k q g
        rw [allBl_enc r hl] at hs
        exact ⟨_, hr, a, bs, rfl, hs, out_bl k h⟩
  · exact h.elim
theorem all_ok (hc : X.calm = true) : CallR X (.builtin "all") (rCl X.K M W allM) := bools_ok (cr_all hc)
def allIn : List D → Option (List Int)
  | [] => some []
  | .int b :: l => (allIn l).map (b :: ·)
  | _ => none
theorem allIn_enc {H : Hp} {ow : Addr → Prop} : ∀ {l : List D} {vs : List V} {bs : List Int}, allIn l = some bs → EncL K M H ow l vs → vs = bs.map V.int
  | [], _, bs, h, e => by
    cases e
    cases h
    rfl
  | d :: l, _, bs, h, e => by
    cases e with
    | cons a b =>
      cases d with
      | int c =>
        unfold allIn at h
        cases r : allIn l with
        | none =>
          rw [r] at h
          cases h
        | some bs' =>
          rw [r] at h
          cases h
          cases a
          rw [allIn_enc r b]
          rfl
      | _ => cases h
def sumM : Fn := fun as S => match as with
  | [d] => match getL d S with
    | some l => match allIn l with
      | some bs => .ok (.int bs.sum) S
      | none => .bad
    | none => .bad
  | _ => .bad
theorem sum_ok (hc : X.calm = true) : CallR X (.builtin "sum") (rCl X.K M W sumM) := call_of fun as xs z σ' Q k qa h => by
  unfold sumM at h
  split at h
  · obtain ⟨v, rfl, q⟩ := encAs1 qa
    rename_i d
    cases g : getL d z.S with
    | none =>
      rw [g] at h
      exact h.elim
    | some l =>
      rw [g] at h
      dsimp only at h
      cases r : allIn l with
      | none =>
        rw [r] at h
        exact h.elim
      | some bs =>
        rw [r] at h
        obtain ⟨a, vs, rfl, hs, hl⟩ := getL_ok k q g
        rw [allIn_enc r hl] at hs
        exact ⟨_, cr_sum hc, a, bs, rfl, hs, out_int k h⟩
  · exact h.elim
def tyOf (d : D) (S : Sto) : Option (Option Ty) := match d with
  | .non => some none
  | .bl _ => some (some .bool)
  | .int _ => some (some .int)
  | .str _ => some (some .str)
  | .tup _ => some (some .tuple)
  | .lst _ => some (some .list)
  | .dic _ => some (some .dict)
  | .ref n => match S[n]? with
    | some (.lst _ _) => some (some .list)
    | some (.dic _ _) => some (some .dict)
    | some (.arr _) => some (some .list)
    | some (.dar _ _) => some (some .dict)
    | some (.ins _ _ _) => none
    | some (.tpl _) => none
    | none => none
  | _ => none
def tyIs : Option Ty → Ty → Bool
  | none, _ => false
  | some .bool, .int => true
  | some a, b => decide (a = b)
def tyNm : Option Ty → String
  | none => "NoneType"
  | some t => t.name
theorem tyIs_kit (a : Option Ty) (b : Ty) : PySem.W.kitOne K (.type (tyNm a)) (.type b.name) = some (tyIs a b) := by
  refine kit_ty ?_
  cases a with
  | none => cases b <;> decide +kernel
  | some a => cases a <;> cases b <;> decide +kernel
theorem tyOf_x {d : D} {v : V} {t : Option Ty} (k : SOk K M z) (q : EncA K M z d v) (h : tyOf d z.S = some t) (hd : ∀ l, d ≠ .tup l) : TyX K z.H v (.type (tyNm t)) := by
  cases d with
  | non =>
    cases h
    rw [encA_non q]
    exact .base .non
  | bl b =>
    cases h
    rw [encA_bl q]
    exact .base (.bl b)
  | int b =>
    cases h
    rw [encA_int q]
    exact .base (.int b)
  | str b =>
    cases h
    rw [encA_str q]
    exact .base (.str _)
  | tup l => exact absurd rfl (hd l)
  | lst l =>
    cases h
    cases q with
    | of q =>
      cases q with
      | lst r _ =>
        rcases r with ⟨r | ⟨o, r⟩, _⟩ | ⟨_, _, r, _⟩
        · exact .base (.lst r)
        · exact .base (.frz r)
        · exact .kList r rfl
  | dic l =>
    cases h
    cases q with
    | of q =>
      cases q with
      | dic r _ _ => exact .base (.dK r)
  | ref n =>
    unfold tyOf at h
    dsimp only at h
    cases r : z.S[n]? with
    | none =>
      rw [r] at h
      cases h
    | some o =>
      rw [r] at h
      cases o with
      | lst fz l =>
        cases h
        obtain ⟨a, vs, rfl, _, h1, _⟩ := ref_lst k q r
        exact .base (.lst h1)
      | dic fz l =>
        cases h
        obtain ⟨a, vs, rfl, _, h1, _⟩ := ref_dic k q r
        exact .base (.dK h1)
      | arr l =>
        cases h
        obtain ⟨_, _, a, vs, rfl, _, h1, _⟩ := ref_arr k q r
        exact .base (.lst h1)
      | dar ks l =>
        cases h
        obtain ⟨_, _, a, vs, rfl, _, h1, _⟩ := ref_dar k q r
        exact .base (.dK h1)
      | ins c ks l => cases h
      | tpl l => cases h
  | _ => cases h
theorem tyOf_tup {l : List D} {v : V} (q : EncA K M z (.tup l) v) : TyX K z.H v (.type "tuple") := by
  obtain ⟨a, vs, rfl, hs, _⟩ := encA_tup q
  rcases hs with (r | ⟨o, r⟩) | ⟨o, its, n, h1, h2, _⟩
  · exact .base (.tup r)
  · exact .fTuple r
  · exact .kTuple h1 h2
theorem tyOf_ok {d : D} {v : V} {t : Option Ty} (k : SOk K M z) (q : EncA K M z d v) (h : tyOf d z.S = some t) : TyX K z.H v (.type (tyNm t)) := by
  by_cases c : ∃ l, d = .tup l
  · obtain ⟨l, rfl⟩ := c
    cases h
    exact tyOf_tup q
  · exact tyOf_x k q h fun l e => c ⟨l, e⟩
def rIsiA (K : PySem.W.Frag) : List V → Hp → VK → Prop := fun xs H Q => ∃ (x : V) (tp : Addr) (cs : List V) (t : Value) (us : List Value) (b : Bool), xs = [x, .ref tp] ∧ SqT K H tp cs ∧ Paired ClsV cs us ∧ TyX K H x t ∧ PySem.W.kitAny K t us = some b ∧ Q (.bl b) H
theorem call_isiA : CallR X (.builtin "isinstance") (rIsiA X.K) := by
  intro pins s σ H xs us Q I r h
  obtain ⟨x, tp, cs, t, ws, b, rfl, hT, k, ty, e, q⟩ := h
  obtain ⟨u1, u2, rfl, r1, r2⟩ := vals2 r
  cases (show u2 = Value.ref tp from r2)
  obtain ⟨P, Z, p, hx⟩ := kit_of I r1 ty
  obtain ⟨its, rv, ⟨o, h1, h2, n, h3⟩, _⟩ := I.tuple hT
  have e3 := ClsV.all k rv
  subst e3
  obtain ⟨oc, od, dt, sl⟩ := o
  simp only at h2 h3
  subst h2 h3
  exact PySem.W.kia_tup Z I.kIn p h1 e hx fun tk => ⟨.bl b, H, I.tok tk, rfl, q⟩
def isiM : Fn := fun as S => match as with
  | [d, .ty t] => match tyOf d S with
    | some a => .ok (.bl (tyIs a t)) S
    | none => .bad
  | [d, .tup [.ty t, .ty u]] => match tyOf d S with
    | some a => .ok (.bl (tyIs a t || tyIs a u)) S
    | none => .bad
  | _ => .bad
theorem isi_ok : CallR X (.builtin "isinstance") (rCl X.K M W isiM) := call_of fun as xs z σ' Q k qa h => by
  unfold isiM at h
  split at h
  · rename_i d t
    obtain ⟨v, w, rfl, q, q2⟩ := encAs2 qa
    cases e : tyOf d z.S with
    | none =>
      rw [e] at h
      exact h.elim
    | some a =>
      rw [e] at h
      have ew : w = .ty t.name := by
        cases q2 with
        | of q2 =>
          cases q2
          rfl
      subst ew
      exact ⟨_, call_isi, v, _, _, _, _, rfl, .ty _, tyOf_ok k q e, tyIs_kit a t, out_bl k h⟩
  · rename_i d t u
    obtain ⟨v, w, rfl, q, q2⟩ := encAs2 qa
    cases e : tyOf d z.S with
    | none =>
      rw [e] at h
      exact h.elim
    | some a =>
      rw [e] at h
      obtain ⟨p, vs, rfl, hs, hl⟩ := encA_tup q2
      have evs : vs = [.ty t.name, .ty u.name] := by
        cases hl with
        | cons a b =>
          cases b with
          | cons c d =>
            cases d
            cases a
            cases c
            rfl
      subst evs
      refine ⟨_, call_isiA, v, p, _, _, [.type t.name, .type u.name], tyIs a t || tyIs a u, rfl, hs, .cons (.ty _) (.cons (.ty _) .nil), tyOf_ok k q e, ?_, out_bl k h⟩
      refine kitAny_cons (tyIs_kit a t) (fun e1 => ?_) (fun e1 => by rw [e1]; rfl)
      rw [e1, Bool.false_or]
      refine kitAny_cons (tyIs_kit a u) (fun e2 => ?_) (fun e2 => e2)
      rw [e2]
      exact kitAny_nil
  · exact h.elim
end
end Sm
namespace Sm
open PySem PySem.Spec PyProof.Rows L2
section
variable {K : PySem.W.Frag} {M : Lm} {z z' zc zd : Sg} {p : Addr}
structure GX (p : Addr) (z z' : Sg) : Prop where
  keep : ∀ a o, z.H a = some o → ¬ z.ow a → (∀ ps, o ≠ .tbl ps) → z'.H a = some o
  nw : ∀ a, Solid z.H a → ¬ z.ow a → ¬ z'.ow a
  tup : ∀ a xs, z.H a = some (.tup xs) → z'.H a = some (.tup xs)
  frz : ∀ a o u, z.H a = some (.frz o u) → z'.H a = some (.frz o u)
  xds : ∀ a fs, z.H a = some (.xd fs) → z'.H a = some (.xd fs)
  pre : ∃ T, z'.R = z.R ++ T
  grow : z.S.length ≤ z'.S.length
  gh : z'.G = p :: z.G
  gk : ∀ g ∈ z.G, z'.H g = z.H g
theorem GX.wk (g : GX p z z') : Wk z z' := ⟨⟨g.keep, g.nw, g.tup, g.frz, g.xds⟩, g.pre, g.grow⟩
theorem GX.mv (g : GX p z z') : Mv z.H z'.H z.ow z'.ow := ⟨g.keep, g.nw, g.tup, g.frz, g.xds⟩
theorem GX.step (g : GX p z zc) (x : Ext zc zd) : GX p z zd where
  keep := fun a o h n t => x.keep a o (g.keep a o h n t) (g.nw a ⟨_, h, t⟩ n) t
  nw := fun a h n => x.nw a (let ⟨o, q, t⟩ := h; ⟨o, g.keep a o q n t, t⟩) (g.nw a h n)
  tup := fun a xs h => x.tup a xs (g.tup a xs h)
  frz := fun a o u h => x.frz a o u (g.frz a o u h)
  xds := fun a fs h => x.xds a fs (g.xds a fs h)
  pre := by
    obtain ⟨T, h⟩ := g.pre
    obtain ⟨T', h'⟩ := x.pre
    exact ⟨T ++ T', by rw [h', h, List.append_assoc]⟩
  grow := Nat.le_trans g.grow x.grow
  gh := x.gh.trans g.gh
  gk := fun a h => (x.gk a (by rw [g.gh]; exact List.mem_cons_of_mem _ h)).trans (g.gk a h)
def Sg.mk1 (z : Sg) (p : Addr) (o : HO) : Sg := { z with H := upd z.H p o, G := p :: z.G }
def LD (o : HO) : Prop := (∃ xs, o = .lst xs) ∨ ∃ kvs, o = .dK kvs
theorem ow_mk1 {o : HO} {a : Addr} (h : (z.mk1 p o).ow a) : z.ow a ∨ a = p := by
  rcases h with h | h
  · exact .inl (.inl h)
  · rcases List.mem_cons.mp h with h | h
    · exact .inr h
    · exact .inl (.inr h)
theorem gx_start {o : HO} (np : z.H p = none) (k : SOk K M z) : GX p z (z.mk1 p o) where
  keep := (ext_put (o := o) np k).keep
  nw := fun a h n q => by
    rcases ow_mk1 q with q | q
    · exact n q
    · obtain ⟨w, e, _⟩ := h
      rw [q, np] at e
      cases e
  tup := (ext_put (o := o) np k).tup
  frz := (ext_put (o := o) np k).frz
  xds := (ext_put (o := o) np k).xds
  pre := ⟨[], (List.append_nil _).symm⟩
  grow := Nat.le_refl _
  gh := rfl
  gk := (ext_put (o := o) np k).gk
theorem sok_mk1 {o : HO} (ho : LD o) (np : z.H p = none) (k : SOk K M z) : SOk K M (z.mk1 p o) where
  len := k.len
  nd := k.nd
  gR := fun g hg => by
    rcases List.mem_cons.mp hg with h | h
    · rw [h]
      exact not_R (z := z) np k
    · exact k.gR g h
  gT := fun g hg => by
    rcases List.mem_cons.mp hg with h | h
    · rw [h]
      exact ⟨o, upd_same, ho⟩
    · obtain ⟨xs, h1, h2⟩ := k.gT g h
      exact ⟨xs, ((ext_put (o := o) np k).gk g h).trans h1, h2⟩
  aux := k.aux.mvR (gx_start np k).mv (gx_start (o := o) np k).pre (gx_start (o := o) np k).grow (tabs_put k.aux.tab np)
  obj := fun n u a h1 h2 => by
    have q := k.obj n u a h1 h2
    have m := (gx_start (o := o) np k).mv
    have ne : ∀ w, z.H a = some w → (z.mk1 p o).H a = some w := fun w h => by
      show upd z.H p o a = _
      rw [upd_ne (ne_of_none h np)]
      exact h
    cases u with
    | lst fz l =>
      obtain ⟨vs, h, e⟩ := q
      exact ⟨vs, ne _ h, e.mv m⟩
    | dic fz l =>
      obtain ⟨vs, h, e⟩ := q
      exact ⟨vs, ne _ h, e.mv m⟩
    | arr l =>
      obtain ⟨ha, vs, h, e⟩ := q
      exact ⟨ha, vs, ne _ h, e.mvR (gx_start (o := o) np k).mv (gx_start (o := o) np k).pre (gx_start (o := o) np k).grow⟩
    | dar ks l =>
      obtain ⟨ha, vs, h, e⟩ := q
      exact ⟨ha, vs, ne _ h, e.mvR (gx_start (o := o) np k).mv (gx_start (o := o) np k).pre (gx_start (o := o) np k).grow⟩
    | ins c ks l => exact ObE.mvR m (gx_start (o := o) np k).pre (gx_start (o := o) np k).grow ne (fun _ h => h) q
    | tpl l => exact ObE.mvR m (gx_start (o := o) np k).pre (gx_start (o := o) np k).grow ne (fun _ h => h) q
def Sg.wr1 (z : Sg) (p : Addr) (o : HO) : Sg := { z with H := upd z.H p o }
theorem mv_wr1 {o : HO} (hp : p ∈ z.G) (k : SOk K M z) : Mv z.H (z.wr1 p o).H z.ow (z.wr1 p o).ow := by
  obtain ⟨w, hw, hk⟩ := k.gT p hp
  have nep : ∀ a v, z.H a = some v → LD v ∨ a ≠ p := fun a v h => by
    by_cases e : a = p
    · subst e
      rw [hw] at h
      cases h
      exact .inl hk
    · exact .inr e
  refine ⟨fun a u h n _ => ?_, fun a _ n => n, fun a xs h => ?_, fun a u w h => ?_, fun a fs h => ?_⟩
  · show upd z.H p o a = _
    rw [upd_ne (fun e => n (by rw [e]; exact .inr hp))]
    exact h
  · show upd z.H p o a = _
    rw [upd_ne ((nep a _ h).resolve_left fun r => by rcases r with ⟨_, r⟩ | ⟨_, r⟩ <;> cases r)]
    exact h
  · show upd z.H p o a = _
    rw [upd_ne ((nep a _ h).resolve_left fun r => by rcases r with ⟨_, r⟩ | ⟨_, r⟩ <;> cases r)]
    exact h
  · show upd z.H p o a = _
    rw [upd_ne ((nep a _ h).resolve_left fun r => by rcases r with ⟨_, r⟩ | ⟨_, r⟩ <;> cases r)]
    exact h
theorem sok_wr1 {o : HO} (ho : LD o) (hp : p ∈ z.G) (k : SOk K M z) : SOk K M (z.wr1 p o) where
  len := k.len
  nd := k.nd
  gR := k.gR
  gT := fun g hg => by
    by_cases e : g = p
    · rw [e]
      exact ⟨o, upd_same, ho⟩
    · obtain ⟨xs, h1, h2⟩ := k.gT g hg
      exact ⟨xs, by
        show upd z.H p o g = _
        rw [upd_ne e]
        exact h1, h2⟩
  aux := k.aux.mvR (mv_wr1 hp k) ⟨[], (List.append_nil _).symm⟩ (Nat.le_refl _) (by
    obtain ⟨w, hw, hk⟩ := k.gT p hp
    exact tabs_wr k.aux.tab hw (hk.imp id .inl))
  obj := fun n u a h1 h2 => by
    have q := k.obj n u a h1 h2
    have m := mv_wr1 (o := o) hp k
    have ne : a ≠ p := fun e => k.gR p hp (by rw [← e]; exact List.mem_of_getElem? h2)
    have kp : ∀ w, z.H a = some w → (z.wr1 p o).H a = some w := fun w h => by
      show upd z.H p o a = _
      rw [upd_ne ne]
      exact h
    cases u with
    | lst fz l =>
      obtain ⟨vs, h, e⟩ := q
      exact ⟨vs, kp _ h, e.mv m⟩
    | dic fz l =>
      obtain ⟨vs, h, e⟩ := q
      exact ⟨vs, kp _ h, e.mv m⟩
    | arr l =>
      obtain ⟨ha, vs, h, e⟩ := q
      exact ⟨ha, vs, kp _ h, e.mvR (z' := z.wr1 p o) m ⟨[], (List.append_nil _).symm⟩ (Nat.le_refl _)⟩
    | dar ks l =>
      obtain ⟨ha, vs, h, e⟩ := q
      exact ⟨ha, vs, kp _ h, e.mvR (z' := z.wr1 p o) m ⟨[], (List.append_nil _).symm⟩ (Nat.le_refl _)⟩
    | ins c ks l => exact ObE.mvR (z' := z.wr1 p o) m ⟨[], (List.append_nil _).symm⟩ (Nat.le_refl _) kp (fun _ h => h) q
    | tpl l => exact ObE.mvR (z' := z.wr1 p o) m ⟨[], (List.append_nil _).symm⟩ (Nat.le_refl _) kp (fun _ h => h) q
theorem GX.wr {o : HO} (g : GX p z zc) (np : z.H p = none) (k : SOk K M z) (kc : SOk K M zc) : GX p z (zc.wr1 p o) := by
  have hp : p ∈ zc.G := by rw [g.gh]; exact List.mem_cons_self
  have m := mv_wr1 (o := o) hp kc
  refine ⟨fun a u h n t => m.keep a u (g.keep a u h n t) (g.nw a ⟨_, h, t⟩ n) t, fun a h n => m.nw a (let ⟨o, q, t⟩ := h; ⟨o, g.keep a o q n t, t⟩) (g.nw a h n), fun a xs h => m.tup a xs (g.tup a xs h), fun a u w h => m.frz a u w (g.frz a u w h), fun a fs h => m.xds a fs (g.xds a fs h), g.pre, g.grow, g.gh, fun a h => ?_⟩
  · show upd zc.H p o a = _
    obtain ⟨u, h1, _⟩ := k.gT a h
    rw [upd_ne (ne_of_none h1 np)]
    exact g.gk a h
def Sg.done (z : Sg) (G : List Addr) : Sg := { z with G := G }
theorem ow_done {z z' : Sg} (e : z'.G = p :: z.G) {a : Addr} (h : (z'.done z.G).ow a) : z'.ow a := by
  rcases h with h | h
  · exact .inl h
  · exact .inr (by rw [e]; exact List.mem_cons_of_mem _ h)
theorem GX.ext (g : GX p z zc) : Ext z (zc.done z.G) where
  keep := g.keep
  nw := fun a h n q => g.nw a h n (ow_done g.gh q)
  tup := g.tup
  frz := g.frz
  xds := g.xds
  pre := g.pre
  grow := g.grow
  gh := rfl
  gk := g.gk
theorem GX.less (g : GX p z zc) : Mv zc.H (zc.done z.G).H zc.ow (zc.done z.G).ow := Mv.less fun a h => ow_done g.gh h
theorem GX.sok (g : GX p z zc) (k : SOk K M zc) : SOk K M (zc.done z.G) where
  len := k.len
  nd := k.nd
  gR := fun a h => k.gR a (by rw [g.gh]; exact List.mem_cons_of_mem _ h)
  gT := fun a h => k.gT a (by rw [g.gh]; exact List.mem_cons_of_mem _ h)
  aux := k.aux.mvR g.less ⟨[], (List.append_nil _).symm⟩ (Nat.le_refl _) k.aux.tab
  obj := fun n u a h1 h2 => by
    have q := k.obj n u a h1 h2
    cases u with
    | lst fz l =>
      obtain ⟨vs, h, e⟩ := q
      exact ⟨vs, h, e.mv g.less⟩
    | dic fz l =>
      obtain ⟨vs, h, e⟩ := q
      exact ⟨vs, h, e.mv g.less⟩
    | arr l =>
      obtain ⟨ha, vs, h, e⟩ := q
      exact ⟨ha, vs, h, e.mvR (z' := zc.done z.G) g.less ⟨[], (List.append_nil _).symm⟩ (Nat.le_refl _)⟩
    | dar ks l =>
      obtain ⟨ha, vs, h, e⟩ := q
      exact ⟨ha, vs, h, e.mvR (z' := zc.done z.G) g.less ⟨[], (List.append_nil _).symm⟩ (Nat.le_refl _)⟩
    | ins c ks l => exact ObE.mvR (z' := zc.done z.G) g.less ⟨[], (List.append_nil _).symm⟩ (Nat.le_refl _) (fun _ h => h) (fun _ h => h) q
    | tpl l => exact ObE.mvR (z' := zc.done z.G) g.less ⟨[], (List.append_nil _).symm⟩ (Nat.le_refl _) (fun _ h => h) (fun _ h => h) q
theorem GX.now (g : GX p z zc) (np : z.H p = none) (k : SOk K M z) (kc : SOk K M zc) : ¬ (zc.done z.G).ow p := by
  have hp : p ∈ zc.G := by rw [g.gh]; exact List.mem_cons_self
  rintro (⟨n, o, h1, _, h3⟩ | h)
  · exact kc.gR p hp (List.mem_of_getElem? h3)
  · obtain ⟨o, e, _⟩ := k.gT p h
    rw [np] at e
    cases e
theorem GX.own (g : GX p z zc) (np : z.H p = none) (k : SOk K M z) (kc : SOk K M zc) {b : Ob} (hb : ObE K M zc p b) (hb9 : ∀ l, b ≠ .tpl l := by exact fun _ z => nomatch z) : Ext z { H := zc.H, S := zc.S ++ [b], R := zc.R ++ [p], G := z.G } ∧ SOk K M { H := zc.H, S := zc.S ++ [b], R := zc.R ++ [p], G := z.G } ∧
    EncA K M { H := zc.H, S := zc.S ++ [b], R := zc.R ++ [p], G := z.G } (.ref zc.S.length) (.ref p) := by
  have hp : p ∈ zc.G := by rw [g.gh]; exact List.mem_cons_self
  have pR := kc.gR p hp
  have owl : ∀ a, ({ H := zc.H, S := zc.S ++ [b], R := zc.R ++ [p], G := z.G } : Sg).ow a → zc.ow a := by
    rintro a (⟨n, o, h1, h2, h3⟩ | h)
    · have h1' : (zc.S ++ [b])[n]? = some o := h1
      have h3' : (zc.R ++ [p])[n]? = some a := h3
      by_cases hn : n < zc.S.length
      · rw [List.getElem?_append_left hn] at h1'
        rw [List.getElem?_append_left (by rw [kc.len]; exact hn)] at h3'
        exact .inl ⟨n, o, h1', h2, h3'⟩
      · rw [List.getElem?_append_right (by rw [kc.len]; omega)] at h3'
        have : a ∈ [p] := List.mem_of_getElem? h3'
        have : a = p := by simpa using this
        rw [this]
        exact .inr hp
    · exact .inr (by rw [g.gh]; exact List.mem_cons_of_mem _ h)
  have less : Mv zc.H zc.H zc.ow ({ H := zc.H, S := zc.S ++ [b], R := zc.R ++ [p], G := z.G } : Sg).ow := Mv.less owl
  refine ⟨⟨g.keep, fun a h n q => g.nw a h n (owl a q), g.tup, g.frz, g.xds, ?_, ?_, rfl, g.gk⟩, ⟨?_, ?_, fun a h q => ?_, fun a h => kc.gT a (by rw [g.gh]; exact List.mem_cons_of_mem _ h), fun n u a h1 h2 => ?_, kc.aux.mvR less ⟨[p], rfl⟩ ?_ kc.aux.tab⟩, .ref ?_ ?_⟩
  · obtain ⟨T, e⟩ := g.pre
    exact ⟨T ++ [p], by
      show zc.R ++ [p] = _
      rw [e, List.append_assoc]⟩
  · show z.S.length ≤ (zc.S ++ [b]).length
    rw [List.length_append]
    exact Nat.le_trans g.grow (Nat.le_add_right _ _)
  · show (zc.R ++ [p]).length = (zc.S ++ [b]).length
    rw [List.length_append, List.length_append, kc.len]
    rfl
  · show (zc.R ++ [p]).Nodup
    rw [List.nodup_append]
    refine ⟨kc.nd, by simp, fun a ha c hc e => ?_⟩
    have : c = p := by simpa using hc
    rw [this] at e
    rw [e] at ha
    exact pR ha
  · have q' : a ∈ zc.R ++ [p] := q
    rcases List.mem_append.mp q' with q' | q'
    · exact kc.gR a (by rw [g.gh]; exact List.mem_cons_of_mem _ h) q'
    · have e : a = p := by simpa using q'
      obtain ⟨o, e2, _⟩ := k.gT a h
      rw [e, np] at e2
      cases e2
  · have h1' : (zc.S ++ [b])[n]? = some u := h1
    have h2' : (zc.R ++ [p])[n]? = some a := h2
    by_cases hn : n < zc.S.length
    · rw [List.getElem?_append_left hn] at h1'
      rw [List.getElem?_append_left (by rw [kc.len]; exact hn)] at h2'
      have q := kc.obj n u a h1' h2'
      cases u with
      | lst fz l =>
        obtain ⟨vs, h, e⟩ := q
        exact ⟨vs, h, e.mv less⟩
      | dic fz l =>
        obtain ⟨vs, h, e⟩ := q
        exact ⟨vs, h, e.mv less⟩
      | arr l =>
        obtain ⟨ha, vs, h, e⟩ := q
        exact ⟨ha, vs, h, e.mvR (z' := { H := zc.H, S := zc.S ++ [b], R := zc.R ++ [p], G := z.G }) less ⟨[p], rfl⟩ (by
          show zc.S.length ≤ (zc.S ++ [b]).length
          rw [List.length_append]
          exact Nat.le_add_right _ _)⟩
      | dar ks l =>
        obtain ⟨ha, vs, h, e⟩ := q
        exact ⟨ha, vs, h, e.mvR (z' := { H := zc.H, S := zc.S ++ [b], R := zc.R ++ [p], G := z.G }) less ⟨[p], rfl⟩ (by
          show zc.S.length ≤ (zc.S ++ [b]).length
          rw [List.length_append]
          exact Nat.le_add_right _ _)⟩
      | ins c ks l => exact ObE.mvR (z' := { H := zc.H, S := zc.S ++ [b], R := zc.R ++ [p], G := z.G }) less ⟨[p], rfl⟩ (by
          show zc.S.length ≤ (zc.S ++ [b]).length
          rw [List.length_append]
          exact Nat.le_add_right _ _) (fun _ h => h) (fun j hj => push_back pR h2' hj) q
      | tpl l => exact ObE.mvR (z' := { H := zc.H, S := zc.S ++ [b], R := zc.R ++ [p], G := z.G }) less ⟨[p], rfl⟩ (by
          show zc.S.length ≤ (zc.S ++ [b]).length
          rw [List.length_append]
          exact Nat.le_add_right _ _) (fun _ h => h) (fun j hj => push_back pR h2' hj) q
    · rw [List.getElem?_append_right (by rw [kc.len]; omega)] at h2'
      have e1 : a ∈ [p] := List.mem_of_getElem? h2'
      have e1 : a = p := by simpa using e1
      rw [List.getElem?_append_right (by omega)] at h1'
      have e2 : u ∈ [b] := List.mem_of_getElem? h1'
      have e2 : u = b := by simpa using e2
      rw [e1, e2]
      cases b with
      | lst fz l =>
        obtain ⟨vs, h, e⟩ := hb
        exact ⟨vs, h, e.mv less⟩
      | dic fz l =>
        obtain ⟨vs, h, e⟩ := hb
        exact ⟨vs, h, e.mv less⟩
      | arr l =>
        obtain ⟨ha, vs, h, e⟩ := hb
        exact ⟨ha, vs, h, e.mvR (z' := { H := zc.H, S := zc.S ++ [Ob.arr l], R := zc.R ++ [p], G := z.G }) less ⟨[p], rfl⟩ (by
          show zc.S.length ≤ (zc.S ++ [Ob.arr l]).length
          rw [List.length_append]
          exact Nat.le_add_right _ _)⟩
      | dar ks l =>
        obtain ⟨ha, vs, h, e⟩ := hb
        exact ⟨ha, vs, h, e.mvR (z' := { H := zc.H, S := zc.S ++ [Ob.dar ks l], R := zc.R ++ [p], G := z.G }) less ⟨[p], rfl⟩ (by
          show zc.S.length ≤ (zc.S ++ [Ob.dar ks l]).length
          rw [List.length_append]
          exact Nat.le_add_right _ _)⟩
      | ins c ks l =>
        obtain ⟨hl, dx, vs, h, e⟩ := hb
        exact ⟨hl, dx, vs, h, e.mv less⟩
      | tpl l => exact absurd rfl (hb9 l)
  · show zc.S.length ≤ (zc.S ++ [b]).length
    rw [List.length_append]
    exact Nat.le_add_right _ _
  · show (zc.R ++ [p])[zc.S.length]? = some p
    rw [← kc.len, List.getElem?_append_right (Nat.le_refl _), Nat.sub_self]
    rfl
  · show zc.S.length < (zc.S ++ [b]).length
    rw [List.length_append]
    exact Nat.lt_succ_self _
end
def frz1 (d : D) (S : Sto) : Res D := match d with
  | .fn => .bad
  | .ref n => match S[n]? with
    | some (.lst _ l) => .ok (.lst l) (S.set n (.lst true l))
    | some (.dic _ l) => .ok (.dic l) (S.set n (.dic true l))
    | _ => .bad
  | d => .ok d S
def frzL : List D → Sto → Res (List D)
  | [], S => .ok [] S
  | d :: l, S => (frz1 d S).bind fun e S1 => (frzL l S1).bind fun r S2 => .ok (e :: r) S2
section
variable {K : PySem.W.Frag} {M : Lm} {z z' : Sg}
def Sg.st (z : Sg) (S : Sto) : Sg := { z with S := S }
theorem st_frz {n : Nat} {u b : Ob} (k : SOk K M z) (hn : z.S[n]? = some u) (hb : b.live = false) (hu : ∀ a, ObE K M z a u → ObE K M z a b) : Ext z (z.st (z.S.set n b)) ∧ SOk K M (z.st (z.S.set n b)) := by
  have owl : ∀ a, (z.st (z.S.set n b)).ow a → z.ow a := by
    rintro a (⟨m, o, h1, h2, h3⟩ | h)
    · have h1' : (z.S.set n b)[m]? = some o := h1
      by_cases e : m = n
      · subst e
        rw [List.getElem?_set_self (List.getElem?_eq_some_iff.mp hn).1] at h1'
        cases h1'
        rw [hb] at h2
        cases h2
      · rw [List.getElem?_set_ne (Ne.symm e)] at h1'
        exact .inl ⟨m, o, h1', h2, h3⟩
    · exact .inr h
  have less : Mv z.H z.H z.ow (z.st (z.S.set n b)).ow := Mv.less owl
  refine ⟨⟨fun _ _ h _ _ => h, fun a _ q r => q (owl a r), fun _ _ h => h, fun _ _ _ h => h, fun _ _ h => h, ⟨[], (List.append_nil _).symm⟩, ?_, rfl, fun _ _ => rfl⟩, ⟨?_, k.nd, k.gR, k.gT, fun m o a h1 h2 => ?_, k.aux.mvR less ⟨[], (List.append_nil _).symm⟩ ?_ k.aux.tab⟩⟩
  · show z.S.length ≤ (z.S.set n b).length
    rw [List.length_set]
    exact Nat.le_refl _
  · show z.R.length = (z.S.set n b).length
    rw [List.length_set]
    exact k.len
  · have h1' : (z.S.set n b)[m]? = some o := h1
    have tr : ∀ o, ObE K M z a o → ObE K M (z.st (z.S.set n b)) a o := fun o q => by
      cases o with
      | lst fz l =>
        obtain ⟨vs, h, e⟩ := q
        exact ⟨vs, h, e.mv less⟩
      | dic fz l =>
        obtain ⟨vs, h, e⟩ := q
        exact ⟨vs, h, e.mv less⟩
      | arr l =>
        obtain ⟨ha, vs, h, e⟩ := q
        exact ⟨ha, vs, h, e.mvR (z' := z.st (z.S.set n b)) less ⟨[], (List.append_nil _).symm⟩ (by
          show z.S.length ≤ (z.S.set n b).length
          rw [List.length_set]
          exact Nat.le_refl _)⟩
      | dar ks l =>
        obtain ⟨ha, vs, h, e⟩ := q
        exact ⟨ha, vs, h, e.mvR (z' := z.st (z.S.set n b)) less ⟨[], (List.append_nil _).symm⟩ (by
          show z.S.length ≤ (z.S.set n b).length
          rw [List.length_set]
          exact Nat.le_refl _)⟩
      | ins c ks l => exact ObE.mvR (z' := z.st (z.S.set n b)) less ⟨[], (List.append_nil _).symm⟩ (by
          show z.S.length ≤ (z.S.set n b).length
          rw [List.length_set]
          exact Nat.le_refl _) (fun _ h => h) (fun _ h => h) q
      | tpl l => exact ObE.mvR (z' := z.st (z.S.set n b)) less ⟨[], (List.append_nil _).symm⟩ (by
          show z.S.length ≤ (z.S.set n b).length
          rw [List.length_set]
          exact Nat.le_refl _) (fun _ h => h) (fun _ h => h) q
    by_cases e : m = n
    · subst e
      rw [List.getElem?_set_self (List.getElem?_eq_some_iff.mp hn).1] at h1'
      cases h1'
      exact tr _ (hu a (k.obj m u a hn h2))
    · rw [List.getElem?_set_ne (Ne.symm e)] at h1'
      exact tr _ (k.obj m o a h1' h2)
  · show z.S.length ≤ (z.S.set n b).length
    rw [List.length_set]
    exact Nat.le_refl _
theorem not_dead {n : Nat} {a : Addr} {o : Ob} (k : SOk K M z) (h1 : z.S[n]? = some o) (h2 : z.R[n]? = some a) (hl : o.live = false) : ¬ z.ow a := by
  rintro (⟨m, u, q1, q2, q3⟩ | g)
  · have := nodup_at k.nd q3 h2
    subst this
    rw [h1] at q1
    cases q1
    rw [hl] at q2
    cases q2
  · exact k.gR a g (List.mem_of_getElem? h2)
theorem frz1_ok {d d' : D} {S' : Sto} {v : V} (k : SOk K M z) (q : EncA K M z d v) (e : frz1 d z.S = .ok d' S') : ∃ z', z'.H = z.H ∧ z'.S = S' ∧ Ext z z' ∧ SOk K M z' ∧ Enc K M z'.H z'.ow d' v := by
  by_cases hd : ∃ n, d = .ref n
  · obtain ⟨n, rfl⟩ := hd
    unfold frz1 at e
    dsimp only at e
    cases r : z.S[n]? with
    | none =>
      rw [r] at e
      cases e
    | some o =>
      rw [r] at e
      cases o with
      | lst fz l =>
        cases e
        obtain ⟨x, k'⟩ := st_frz (b := .lst true l) k r rfl (fun a h => h)
        obtain ⟨a, vs, rfl, ha, hv, hl⟩ := ref_lst k q r
        refine ⟨z.st (z.S.set n (.lst true l)), rfl, rfl, x, k', .lst (.inl ⟨.inl hv, not_dead (n := n) (o := .lst true l) k' ?_ ha rfl⟩) (hl.mv x.mv)⟩
        exact List.getElem?_set_self (List.getElem?_eq_some_iff.mp r).1
      | dic fz l =>
        cases e
        obtain ⟨x, k'⟩ := st_frz (b := .dic true l) k r rfl (fun a h => h)
        obtain ⟨a, vs, rfl, ha, hv, hl⟩ := ref_dic k q r
        refine ⟨z.st (z.S.set n (.dic true l)), rfl, rfl, x, k', .dic hv (not_dead (n := n) (o := .dic true l) k' ?_ ha rfl) (hl.mv x.mv)⟩
        exact List.getElem?_set_self (List.getElem?_eq_some_iff.mp r).1
      | arr l => cases e
      | dar ks l => cases e
      | ins c ks l => cases e
      | tpl l => cases e
  · have hn : ∀ n, d ≠ .ref n := fun n e => hd ⟨n, e⟩
    have nf : d ≠ .fn := fun h => by
      subst h
      cases e
    have e2 : frz1 d z.S = .ok d z.S := by cases d <;> first | rfl | exact absurd rfl (hn _) | exact absurd rfl nf
    rw [e2] at e
    cases e
    exact ⟨z, rfl, rfl, Ext.refl z, k, q.enc hn nf⟩
theorem frzL_ok : ∀ {l l' : List D} {S' : Sto} {vs : List V} {z : Sg}, SOk K M z → EncAs K M z l vs → frzL l z.S = .ok l' S' → ∃ z', z'.H = z.H ∧ z'.S = S' ∧ Ext z z' ∧ SOk K M z' ∧ EncL K M z'.H z'.ow l' vs
  | [], _, _, _, z, k, .nil, e => by
    cases e
    exact ⟨z, rfl, rfl, Ext.refl z, k, .nil⟩
  | d :: l, l', S', _, z, k, .cons a b, e => by
    unfold frzL at e
    cases r : frz1 d z.S with
    | ok d1 S1 =>
      rw [r] at e
      obtain ⟨z1, h1, h2, x1, k1, q1⟩ := frz1_ok k a r
      subst h2
      have e' : (frzL l z1.S).bind (fun r S2 => Res.ok (d1 :: r) S2) = .ok l' S' := e
      cases r2 : frzL l z1.S with
      | ok l2 S2 =>
        rw [r2] at e'
        cases e'
        obtain ⟨z2, h3, h4, x2, k2, q2⟩ := frzL_ok k1 (b.ext x1) r2
        exact ⟨z2, h3.trans h1, h4, x1.trans x2, k2, .cons (q1.mv x2.mv) q2⟩
      | ex _ _ =>
        rw [r2] at e'
        cases e'
      | bad =>
        rw [r2] at e'
        cases e'
    | ex _ _ =>
      rw [r] at e
      cases e
    | bad =>
      rw [r] at e
      cases e
end
section
variable {X : Cx} {M : Lm} {W : WX} {K : PySem.W.Frag} {z : Sg}
theorem frz1_nex {d : D} {S : Sto} {e : D} {S' : Sto} : frz1 d S ≠ .ex e S' := fun h => by
  unfold frz1 at h
  split at h
  · cases h
  · split at h <;> cases h
  · cases h
theorem frzL_nex : ∀ {l : List D} {S : Sto} {e : D} {S' : Sto}, frzL l S ≠ .ex e S'
  | [], _, _, _, h => by cases h
  | d :: l, S, e, S', h => by
    unfold frzL at h
    cases r : frz1 d S with
    | ok d1 S1 =>
      rw [r] at h
      have h' : (frzL l S1).bind (fun r S2 => Res.ok (d1 :: r) S2) = .ex e S' := h
      cases r2 : frzL l S1 with
      | ok l2 S2 =>
        rw [r2] at h'
        cases h'
      | ex _ _ => exact frzL_nex r2
      | bad =>
        rw [r2] at h'
        cases h'
    | ex _ _ => exact frz1_nex r
    | bad =>
      rw [r] at h
      cases h
def tupF (g : Env → Sto → Res (List D)) : Env → Sto → Res D := fun env S => (g env S).bind fun l S1 => (frzL l S1).bind fun l S2 => if l.length ≤ LINE then .ok (.tup l) S2 else .bad
def lstF (g : Env → Sto → Res (List D)) : Env → Sto → Res D := fun env S => (g env S).bind fun l S1 => (frzL l S1).bind fun l S2 => if l.length ≤ LINE then .ok (.lst l) S2 else .bad
def lstO (g : Env → Sto → Res (List D)) : Env → Sto → Res D := fun env S => (g env S).bind fun l S1 => (frzL l S1).bind fun l S2 => if l.length ≤ LINE then .ok (.ref S2.length) (S2 ++ [.lst false l]) else .bad
theorem disp_of {g : Env → Sto → Res (List D)} {mk : List D → Sto → Res D} {σ : St} {H : Hp} {Q : VK} {T : List V → Hp → Prop} (h : tE K M W (fun env S => (g env S).bind fun l S1 => (frzL l S1).bind fun l S2 => if l.length ≤ LINE then mk l S2 else .bad) σ H Q)
    (hm : ∀ z l vs, SOk K M z → EncL K M z.H z.ow l vs → l.length ≤ LINE → Out K M (EncA K M) W σ z Q (mk l z.S) → T vs z.H) : tAs K M W g σ H T := by
  obtain ⟨env, z, rfl, k, v, h⟩ := h
  refine ⟨env, z, rfl, k, v, (Out.bind h).imp fun vs H1 q => ?_⟩
  obtain ⟨l, z1, rfl, _, x, k1, q, h1⟩ := q
  cases r : frzL l z1.S with
  | ok l2 S2 =>
    rw [r] at h1
    obtain ⟨z2, e1, e2, x2, k2, q2⟩ := frzL_ok k1 q r
    subst e2
    have h1' : Out K M (EncA K M) W σ z1 Q (if l2.length ≤ LINE then mk l2 z2.S else .bad) := h1
    by_cases c : l2.length ≤ LINE
    · rw [if_pos c] at h1'
      have := hm z2 l2 vs k2 q2 c (Out.rebase x2 h1')
      rw [e1] at this
      exact this
    · rw [if_neg c] at h1'
      exact h1'.elim
  | ex _ _ => exact absurd r frzL_nex
  | bad =>
    rw [r] at h1
    exact h1.elim
theorem s_tup {es : List Expr} {x1 : Nat} {pos : Pos} {g : Env → Sto → Res (List D)} (h : SA X M W es g) : SE X M W (.Tuple es x1 pos) (tupF g) := by
  refine pe_imp (pe_tupN h) fun σ H Q hh => ?_
  refine disp_of (T := fun xs H1 => xs.length ≤ sizeLine ∧ NewT H1 Q xs) hh fun z l vs k q c ho => ⟨by
    rw [← q.length, ← line_eq]
    exact c, out_tup k q ho⟩
theorem s_lst {es : List Expr} {pos : Pos} {g : Env → Sto → Res (List D)} (h : SA X M W es g) : SE X M W (.List es pos) (lstF g) := by
  refine pe_imp (pe_lst h) fun σ H Q hh => ?_
  refine disp_of (T := fun xs H1 => xs.length ≤ sizeLine ∧ ∀ p, H1 p = none → Q (.ref p) (upd H1 p (.lst xs))) hh fun z l vs k q c ho => ⟨by
    rw [← q.length, ← line_eq]
    exact c, out_lst k q ho⟩
theorem s_lstO {es : List Expr} {pos : Pos} {g : Env → Sto → Res (List D)} (h : SA X M W es g) : SE X M W (.List es pos) (lstO g) := by
  refine pe_imp (pe_lst h) fun σ H Q hh => ?_
  refine disp_of (T := fun xs H1 => xs.length ≤ sizeLine ∧ ∀ p, H1 p = none → Q (.ref p) (upd H1 p (.lst xs))) hh fun z l vs k q c ho => ⟨by
    rw [← q.length, ← line_eq]
    exact c, fun p np => ?_⟩
  have hb : ObE X.K M (z.push p (.lst vs) (.lst false l)) p (.lst false l) := ⟨vs, upd_same, q.mv (ext_push np k).mv⟩
  exact ho (z.push p (.lst vs) (.lst false l)) (.ref p) rfl (ext_push np k) (sok_push np k hb) (encA_push k)
end
end Sm
namespace Sm
open PySem PySem.Spec PyProof.Rows L2
def wipeE (env : Env) : List Nat → Env
  | [] => env
  | v :: vs => (wipeE env vs).set v none
theorem wipe_ok {K : PySem.W.Frag} {M : Lm} {z : Sg} {env : Env} {σ : St} (h : EnvOk K M z env σ) : ∀ vs : List Nat, EnvOk K M z (wipeE env vs) (wipe σ vs)
  | [] => h
  | v :: vs => by
    have ih := wipe_ok h vs
    refine ⟨?_, fun i d e => ?_⟩
    · show ((wipeE env vs).set v none).length = ((wipe σ vs).set v none).length
      rw [List.length_set, List.length_set]
      exact ih.1
    · have e' : ((wipeE env vs).set v none)[i]? = some (some d) := e
      by_cases hi : v = i
      · subst hi
        by_cases hv : v < (wipeE env vs).length
        · rw [List.getElem?_set_self hv] at e'
          cases e'
        · rw [List.getElem?_eq_none (by simpa using hv)] at e'
          cases e'
      · rw [List.getElem?_set_ne hi] at e'
        obtain ⟨w, h1, h2⟩ := ih.2 i d e'
        refine ⟨w, ?_, h2⟩
        show ((wipe σ vs).set v none)[i]? = _
        rw [List.getElem?_set_ne hi]
        exact h1
mutual
def Tgt.ix : Tgt → List Nat
  | .one i => [i]
  | .many ts => Tgt.ixs ts
def Tgt.ixs : List Tgt → List Nat
  | [] => []
  | t :: ts => t.ix ++ Tgt.ixs ts
end
def TgOk2 (K : PySem.W.Frag) (M : Lm) (g : TG) (t : Tgt) : Prop := ∀ (z : Sg) (env env' : Env) (σ : St) (d : D) (v : V) (Q : St → Hp → Prop), SOk K M z → EnvOk K M z env σ → EncA K M z d v → t.put d env = some env' →
  (∀ σ', EnvOk K M z env' σ' → σ'.length = σ.length → (∀ i, i ∉ t.ix → σ'[i]? = σ[i]?) → Q σ' z.H) → g v σ z.H Q
def TgsOk2 (K : PySem.W.Frag) (M : Lm) (g : TGs) (ts : List Tgt) : Prop := ∀ (z : Sg) (env env' : Env) (σ : St) (l : List D) (vs : List V) (Q : St → Hp → Prop), SOk K M z → EnvOk K M z env σ → EncL K M z.H z.ow l vs → Tgt.puts ts l env = some env' →
  (∀ σ', EnvOk K M z env' σ' → σ'.length = σ.length → (∀ i, i ∉ Tgt.ixs ts → σ'[i]? = σ[i]?) → Q σ' z.H) → g vs σ z.H Q
structure SG2 {ι : Type} (X : ι → Cx) (K : PySem.W.Frag) (M : Lm) (e : Expr) (t : Tgt) : Prop where
  ex : ∃ g, (∀ i, PG (X i) e g) ∧ TgOk2 K M g t
structure SGs2 {ι : Type} (X : ι → Cx) (K : PySem.W.Frag) (M : Lm) (es : List Expr) (ts : List Tgt) : Prop where
  ex : ∃ g, (∀ i, PGs (X i) es g) ∧ TgsOk2 K M g ts
section
variable {ι : Type} {X : ι → Cx} {K : PySem.W.Frag} {M : Lm}
theorem sg2_name (i : Nat) {x : Str} {pos : Pos} (h : ∀ j, PG (X j) (.Name x pos) (gName i)) : SG2 X K M (.Name x pos) (.one i) :=
  ⟨_, h, fun z env env' σ d v Q k ve q e h => h _ (by
    have e' : env.set i (some d) = env' := Option.some.inj e
    rw [← e']
    exact ve.set i q) (List.length_set ..) fun j hj => List.getElem?_set_ne (fun e => hj (by rw [e]; exact List.mem_singleton_self _))⟩
end
def lcL (t : Tgt) (c : Env → Sto → Res Bool) (e : Env → Sto → Res D) (g : Option Nat) (o : Option Ob) (env : Env) : List D → Sto → Res (List D)
  | [], S => match g with
    | none => .ok [] S
    | some n => if S[n]? = o then .ok [] S else .bad
  | d :: r, S =>
    let go : Res (List D) := match t.put d env with
      | none => .bad
      | some env1 => match c env1 S with
        | .ok true S1 => match e env1 S1 with
          | .ok v S2 => match frz1 v S2 with
            | .ok w S3 => (lcL t c e g o env r S3).bind fun l S4 => .ok (w :: l) S4
            | _ => .bad
          | _ => .bad
        | .ok false S1 => lcL t c e g o env r S1
        | _ => .bad
    match g with
    | none => go
    | some n => if S[n]? = o then go else .bad
def lcG (own : List Nat) (it : Env → Sto → Res Itm) (t : Tgt) (c : Env → Sto → Res Bool) (e : Env → Sto → Res D) : Env → Sto → Res (List D) := fun env S => (it env S).bind fun J S1 => if J.l.length ≤ LINE then lcL t c e J.g J.o (wipeE env own) J.l S1 else .bad
def lcF (own : List Nat) (it : Env → Sto → Res Itm) (t : Tgt) (c : Env → Sto → Res Bool) (e : Env → Sto → Res D) : Env → Sto → Res D := fun env S => (lcG own it t c e env S).bind fun l S1 => .ok (.lst l) S1
def lcO (own : List Nat) (it : Env → Sto → Res Itm) (t : Tgt) (c : Env → Sto → Res Bool) (e : Env → Sto → Res D) : Env → Sto → Res D := fun env S => (lcG own it t c e env S).bind fun l S1 => .ok (.ref S1.length) (S1 ++ [.lst false l])
def yesF : Env → Sto → Res Bool := fun _ S => .ok true S
def W0 : WX := fun _ _ _ _ => False
structure Blk where
  s : Shared
  H : Hp
  C : Addr
  cl : List (Str × Addr)
  fp : List Addr
abbrev blkOf (X : Cx) (scope : Scope) (b : Blk) : Cx := X.blk b.s b.H scope (compEnvC scope b.cl b.C X.env) b.fp
section
variable {X : Cx} {M : Lm} {W : WX}
theorem tlc_of {own : List Nat} {it : Env → Sto → Res Itm} {t : Tgt} {c : Env → Sto → Res Bool} {e : Env → Sto → Res D} {g : TG} (og : TgOk2 X.K M g t) (hix : ∀ i ∈ t.ix, i ∈ own) {σ : St} {H : Hp} {Q : VK} {fin : List D → Sto → Res D}
    (hfin : ∀ (p : Addr) (z zc : Sg) (l : List D) (vs : List V), z.H p = none → SOk X.K M z → SOk X.K M zc → GX p z zc → zc.H p = some (.lst vs) → EncL X.K M zc.H zc.ow l vs → Out X.K M (EncA X.K M) W σ z Q (fin l zc.S) → Q (.ref p) zc.H)
    (h : tE X.K M W (fun env S => (lcG own it t c e env S).bind fin) σ H Q) : tLc (tI X.K M W it) g (tT X.K M W0 c) (tE X.K M W0 e) own σ H Q := by
  obtain ⟨env, z, rfl, k, v, h⟩ := h
  unfold lcG at h
  dsimp only at h
  have hb : Out X.K M (EncA X.K M) W σ z Q ((it env z.S).bind fun J S1 => (if J.l.length ≤ LINE then lcL t c e J.g J.o (wipeE env own) J.l S1 else .bad).bind fin) := by
    cases r : it env z.S with
    | ok a S =>
      rw [r] at h
      exact h
    | ex a S =>
      rw [r] at h
      exact h
    | bad =>
      rw [r] at h
      exact h
  refine ⟨env, z, rfl, k, v, (Out.bind hb).imp fun J H1 q => ?_⟩
  obtain ⟨I, z1, rfl, _, x1, k1, ⟨ok1, hJ⟩, h1⟩ := q
  intro p np
  by_cases hln : I.l.length ≤ LINE
  rotate_left
  · have h1' : Out X.K M (EncA X.K M) W σ z1 Q ((if I.l.length ≤ LINE then lcL t c e I.g I.o (wipeE env own) I.l z1.S else .bad).bind fin) := h1
    rw [if_neg hln] at h1'
    exact h1'.elim
  have h1' : Out X.K M (EncA X.K M) W σ z1 Q ((if I.l.length ≤ LINE then lcL t c e I.g I.o (wipeE env own) I.l z1.S else .bad).bind fin) := h1
  rw [if_pos hln] at h1'
  clear h1 h hb
  have v1 := v.ext x1
  -- the invariant
  let Inv2 : Nat → Hp → Prop := fun i H => i ≤ I.l.length ∧ ∃ zc acc vs, zc.H = H ∧ SOk X.K M zc ∧ GX p z1 zc ∧ H p = some (.lst vs) ∧ EncL X.K M zc.H zc.ow acc vs ∧ acc.length ≤ i ∧
    Out X.K M (EncA X.K M) W σ z1 Q ((lcL t c e I.g I.o (wipeE env own) (I.l.drop i) zc.S).bind fun l S => fin (acc ++ l) S)
  refine ⟨fun i m H => m = I.l.length - i ∧ Inv2 i H, ⟨I.l.length, rfl, Nat.zero_le _, z1.mk1 p (.lst []), [], [], rfl, sok_mk1 (.inl ⟨_, rfl⟩) np k1, gx_start np k1, upd_same, .nil, Nat.le_refl _, h1'⟩, ?_⟩
  rintro i m H ⟨rfl, hi, zc, acc, vs, rfl, kc, gx, hp, hacc, hal, ho⟩
  by_cases hlt : i < I.l.length
  · have hd : I.l.drop i = I.l[i] :: I.l.drop (i + 1) := List.drop_eq_getElem_cons hlt
    rw [hd] at ho
    have hok : I.ok zc.S ∧ Out X.K M (EncA X.K M) W σ z1 Q (Res.bind (match t.put I.l[i] (wipeE env own) with
      | none => .bad
      | some env1 => match c env1 zc.S with
        | .ok true S1 => match e env1 S1 with
          | .ok v S2 => match frz1 v S2 with
            | .ok w S3 => (lcL t c e I.g I.o (wipeE env own) (I.l.drop (i + 1)) S3).bind fun l S4 => .ok (w :: l) S4
            | _ => .bad
          | _ => .bad
        | .ok false S1 => lcL t c e I.g I.o (wipeE env own) (I.l.drop (i + 1)) S1
        | _ => .bad : Res (List D)) fun l S => fin (acc ++ l) S) := by
      unfold lcL at ho
      cases hg : I.g with
      | none =>
        rw [hg] at ho
        exact ⟨fun n q => (by rw [hg] at q; cases q), ho⟩
      | some n =>
        rw [hg] at ho
        dsimp only at ho
        by_cases e : zc.S[n]? = I.o
        · rw [if_pos e] at ho
          exact ⟨fun n' q => (by
            rw [hg] at q
            cases q
            exact e), ho⟩
        · rw [if_neg e] at ho
          exact ho.elim
    obtain ⟨hok, ho⟩ := hok
    obtain ⟨go, yl⟩ := (hJ zc gx.wk kc hok i).1 _ (List.getElem?_eq_getElem hlt)
    refine .inr ⟨go, Inv2 (i + 1), fun H' q => ⟨I.l.length - (i + 1), by omega, rfl, q⟩, fun w H3 y => ?_⟩
    obtain ⟨z3, rfl, eS, x3, k3, e3⟩ := yl w H3 y
    have gx3 := gx.step x3
    have hp3 : z3.H p = some (.lst vs) := by
      rw [x3.gk p (by rw [gx.gh]; exact List.mem_cons_self)]
      exact hp
    have v3 : EnvOk X.K M z3 (wipeE env own) (wipe σ own) := wipe_ok (v1.mvR gx3.mv gx3.pre gx3.grow) own
    cases r : t.put I.l[i] (wipeE env own) with
    | none =>
      rw [r] at ho
      exact ho.elim
    | some env1 =>
      rw [r] at ho
      refine og z3 (wipeE env own) env1 (wipe σ own) _ w _ k3 v3 e3 r fun σ2 v2 len2 same2 => ⟨?_, ?_⟩
      · apply List.ext_getElem?
        intro j
        have wl : ∀ (σ τ : St) (vs : List Nat), σ.length = τ.length → (∀ i : Nat, i ∉ vs → σ[i]? = τ[i]?) → ∀ i : Nat, (wipe σ vs)[i]? = (wipe τ vs)[i]? := by
          intro σ τ vs hl hs
          have inn : ∀ (vs : List Nat) (σ : St) (i : Nat), i ∈ vs → (wipe σ vs)[i]? = if i < σ.length then some none else none := by
            intro vs
            induction vs with
            | nil => intro σ i h; cases h
            | cons u us ih =>
              intro σ i h
              show ((wipe σ us).set u none)[i]? = _
              by_cases hu : u = i
              · subst hu
                by_cases hl : u < σ.length
                · rw [if_pos hl, List.getElem?_set_self (by rw [wipe_length]; exact hl)]
                · rw [if_neg hl, List.getElem?_eq_none]
                  rw [List.length_set, wipe_length]
                  omega
              · rw [List.getElem?_set_ne hu]
                exact ih σ i ((List.mem_cons.mp h).resolve_left (Ne.symm hu))
          intro i
          by_cases hi : i ∈ vs
          · rw [inn vs σ i hi, inn vs τ i hi, hl]
          · have out : ∀ (vs : List Nat) (σ : St), i ∉ vs → (wipe σ vs)[i]? = σ[i]? := fun vs σ h => wipe_out h
            rw [out vs σ hi, out vs τ hi]
            exact hs i hi
        have wl2 : (wipe σ own).length = σ.length := wipe_length σ own
        rw [wl σ2 σ own (len2.trans wl2) (fun i hi => (same2 i (fun q => hi (hix i q))).trans (wipe_out hi)) j]
      · rw [← eS] at ho
        dsimp only at ho
        refine ⟨env1, z3, rfl, k3, v2, ?_⟩
        cases rc : c env1 z3.S with
        | bad =>
          rw [rc] at ho
          exact ho.elim
        | ex _ _ =>
          rw [rc] at ho
          exact ho.elim
        | ok b S1 =>
          rw [rc] at ho
          intro z4 b4 e4 x4 k4 hb
          subst e4
          subst hb
          have gx4 := gx3.step x4
          have hp4 : z4.H p = some (.lst vs) := by
            rw [x4.gk p (by rw [gx3.gh]; exact List.mem_cons_self)]
            exact hp3
          cases b with
          | false =>
            rw [if_neg Bool.false_ne_true]
            exact ⟨hlt, z4, acc, vs, rfl, k4, gx4, hp4, hacc.mv ((x3.trans x4).mv), Nat.le_trans hal (Nat.le_succ i), ho⟩
          | true =>
            rw [if_pos rfl]
            dsimp only at ho
            refine ⟨env1, z4, rfl, k4, v2.ext x4, ?_⟩
            cases re : e env1 z4.S with
            | bad =>
              rw [re] at ho
              exact ho.elim
            | ex _ _ =>
              rw [re] at ho
              exact ho.elim
            | ok d S2 =>
              rw [re] at ho
              intro z5 y5 e5 x5 k5 q5
              subst e5
              dsimp only at ho
              cases rf : frz1 d z5.S with
              | bad =>
                rw [rf] at ho
                exact ho.elim
              | ex _ _ =>
                rw [rf] at ho
                exact ho.elim
              | ok d' S3 =>
                rw [rf] at ho
                dsimp only at ho
                obtain ⟨z6, e6, e7, x6, k6, q6⟩ := frz1_ok k5 q5 rf
                subst e7
                have gx5 := gx4.step x5
                have gx6 := gx5.step x6
                have hp5 : z5.H p = some (.lst vs) := by
                  rw [x5.gk p (by rw [gx4.gh]; exact List.mem_cons_self)]
                  exact hp4
                have acc6 : EncL X.K M z6.H z6.ow acc vs := hacc.mv ((x3.trans (x4.trans (x5.trans x6))).mv)
                have pG : p ∈ z6.G := by rw [gx6.gh]; exact List.mem_cons_self
                have m6 := mv_wr1 (o := .lst (vs ++ [y5])) pG k6
                refine ⟨vs, hp5, ?_, hlt, z6.wr1 p (.lst (vs ++ [y5])), acc ++ [d'], vs ++ [y5], by rw [← e6]; rfl, sok_wr1 (.inl ⟨_, rfl⟩) pG k6, gx6.wr np k1 k6, upd_same, (acc6.mv m6).app (EncL.one (q6.mv m6)), ?_, ?_⟩
                · rw [← acc6.length, ← line_eq]
                  omega
                · rw [List.length_append, List.length_singleton]
                  omega
                · show Out X.K M (EncA X.K M) W σ z1 Q ((lcL t c e I.g I.o (wipeE env own) (I.l.drop (i + 1)) z6.S).bind fun l S => fin (acc ++ [d'] ++ l) S)
                  cases rr : lcL t c e I.g I.o (wipeE env own) (I.l.drop (i + 1)) z6.S with
                  | ok l S4 =>
                    rw [rr] at ho
                    show Out X.K M (EncA X.K M) W σ z1 Q (fin (acc ++ [d'] ++ l) S4)
                    rw [List.append_assoc]
                    exact ho
                  | ex _ _ =>
                    rw [rr] at ho
                    exact ho
                  | bad =>
                    rw [rr] at ho
                    exact ho
  · have ed : I.l.drop i = [] := List.drop_eq_nil_of_le (by omega)
    rw [ed] at ho
    have hok : I.ok zc.S ∧ Out X.K M (EncA X.K M) W σ z1 Q (fin (acc ++ []) zc.S) := by
      unfold lcL at ho
      cases hg : I.g with
      | none =>
        rw [hg] at ho
        exact ⟨fun n q => (by rw [hg] at q; cases q), ho⟩
      | some n =>
        rw [hg] at ho
        dsimp only at ho
        by_cases e : zc.S[n]? = I.o
        · rw [if_pos e] at ho
          exact ⟨fun n' q => (by
            rw [hg] at q
            cases q
            exact e), ho⟩
        · rw [if_neg e] at ho
          exact ho.elim
    obtain ⟨hok, ho⟩ := hok
    rw [List.append_nil] at ho
    exact .inl ⟨(hJ zc gx.wk kc hok i).2 (by omega), hfin p z1 zc acc vs np k1 kc gx hp hacc ho⟩
theorem fin_lst {Q : VK} {σ : St} (p : Addr) (z zc : Sg) (l : List D) (vs : List V) (np : z.H p = none) (k : SOk X.K M z) (kc : SOk X.K M zc) (gx : GX p z zc) (hp : zc.H p = some (.lst vs)) (hl : EncL X.K M zc.H zc.ow l vs) (h : Out X.K M (EncA X.K M) W σ z Q (Res.ok (.lst l) zc.S)) : Q (.ref p) zc.H :=
  h (zc.done z.G) (.ref p) rfl gx.ext (gx.sok kc) (.of (.lst (.inl ⟨.inl hp, gx.now np k kc⟩) (hl.mv gx.less)))
theorem fin_own {Q : VK} {σ : St} (p : Addr) (z zc : Sg) (l : List D) (vs : List V) (np : z.H p = none) (k : SOk X.K M z) (kc : SOk X.K M zc) (gx : GX p z zc) (hp : zc.H p = some (.lst vs)) (hl : EncL X.K M zc.H zc.ow l vs) (h : Out X.K M (EncA X.K M) W σ z Q (Res.ok (.ref zc.S.length) (zc.S ++ [.lst false l]))) : Q (.ref p) zc.H := by
  obtain ⟨x, k2, e2⟩ := gx.own np k kc (b := .lst false l) ⟨vs, hp, hl⟩
  exact h { H := zc.H, S := zc.S ++ [.lst false l], R := zc.R ++ [p], G := z.G } (.ref p) rfl x k2 e2
def STs (X : Cx) (M : Lm) (W : WX) (ifs : List Expr) (c : Env → Sto → Res Bool) : Prop := PTs X ifs (tT X.K M W c)
theorem sts_nil : STs X M W [] yesF := ⟨fun pins s σ H Q I h => pts_nil.run pins s σ H Q I (by
  obtain ⟨env, z, rfl, k, v, h⟩ := h
  exact h z true rfl (Ext.refl z) k rfl)⟩
section
variable {elt tg iter : Expr} {ifs : List Expr} {scope : Scope} {own : List (Str × Nat)} {pos : Pos} {it : Env → Sto → Res Itm} {t : Tgt} {c : Env → Sto → Res Bool} {e : Env → Sto → Res D}
theorem s_lc (own : List (Str × Nat)) (hc : X.calm = true) (hN : X.N.Nodup) (hi : SI X M W tg iter it) (ok : BlkOk X.N X.env.scope scope own) (hg : SG2 (blkOf X scope) X.K M tg t) (ht : ∀ b, STs (blkOf X scope b) M W0 ifs c) (he : ∀ b, SE (blkOf X scope b) M W0 elt e)
    (hix : ∀ i ∈ t.ix, i ∈ own.map (·.2) := by decide) (hs : ∀ x, foldedSetIterable iter X.env x = pure x := by intro _; rfl) : SE X M W (.ListComp elt [⟨tg, iter, ifs, 0⟩] scope pos) (lcF (own.map (·.2)) it t c e) := by
  obtain ⟨g, hg, og⟩ := hg.ex
  exact pe_imp (pe_lc (own := own) (tt := tT X.K M W0 c) (te := tE X.K M W0 e) hc hN hi ok (fun s H C cl fp => hg ⟨s, H, C, cl, fp⟩) (fun s H C cl fp => ht ⟨s, H, C, cl, fp⟩) (fun s H C cl fp => he ⟨s, H, C, cl, fp⟩) hs) fun σ H Q h => tlc_of og hix fin_lst h
theorem tasg_of {f : Env → Sto → Res D} {i : Nat} {tt : TE} {D : Ends} {σ : St} {H : Hp} (hi : ∀ Q, tE X.K M W f σ H Q → tt σ H Q) (h : tS X.K M W (setF i f) D σ H) : tAsg tt (gName i) D σ H := by
  obtain ⟨env, z, rfl, k, v, h⟩ := h
  refine hi _ ⟨env, z, rfl, k, v, (Out.thn v h).imp fun b H1 q => ?_⟩
  obtain ⟨a, z1, rfl, _, x, k1, q, v1, h1⟩ := q
  exact h1 z1 _ rfl (Ext.refl z1) k1 (v1.set i q)
theorem ss_setLc (i : Nat) (own : List (Str × Nat)) {y : Str} {py spos : Pos} (hc : X.calm = true) (hN : X.N.Nodup) (hi : SI X M W tg iter it) (ok : BlkOk X.N X.env.scope scope own) (hg : SG2 (blkOf X scope) X.K M tg t) (ht : ∀ b, STs (blkOf X scope b) M W0 ifs c) (he : ∀ b, SE (blkOf X scope b) M W0 elt e)
    (hsw : swapsWith (.ListComp elt [⟨tg, iter, ifs, 0⟩] scope pos) (some (.Name y py)) spos.line X.env = pure true) (hy : X.N[i]? = some y := by rfl) (hyl : X.env.scope.names.lookup y = some .local := by rfl)
    (hix : ∀ i ∈ t.ix, i ∈ own.map (·.2) := by decide) (hs : ∀ x, foldedSetIterable iter X.env x = pure x := by intro _; rfl) : SS X M W (.Assign [.Name y py] (.ListComp elt [⟨tg, iter, ifs, 0⟩] scope pos) spos) (setF i (lcF (own.map (·.2)) it t c e)) := by
  obtain ⟨g, hg, og⟩ := hg.ex
  exact ps_imp (ps_setLc (own := own) (tt := tT X.K M W0 c) (te := tE X.K M W0 e) hc hN hy hyl hsw hi ok (fun s H C cl fp => hg ⟨s, H, C, cl, fp⟩) (fun s H C cl fp => ht ⟨s, H, C, cl, fp⟩) (fun s H C cl fp => he ⟨s, H, C, cl, fp⟩) hs) fun D σ H h => tasg_of (fun Q h => tlc_of og hix fin_lst h) h
theorem ss_setLcO (i : Nat) (own : List (Str × Nat)) {y : Str} {py spos : Pos} (hc : X.calm = true) (hN : X.N.Nodup) (hi : SI X M W tg iter it) (ok : BlkOk X.N X.env.scope scope own) (hg : SG2 (blkOf X scope) X.K M tg t) (ht : ∀ b, STs (blkOf X scope b) M W0 ifs c) (he : ∀ b, SE (blkOf X scope b) M W0 elt e)
    (hsw : swapsWith (.ListComp elt [⟨tg, iter, ifs, 0⟩] scope pos) (some (.Name y py)) spos.line X.env = pure true) (hy : X.N[i]? = some y := by rfl) (hyl : X.env.scope.names.lookup y = some .local := by rfl)
    (hix : ∀ i ∈ t.ix, i ∈ own.map (·.2) := by decide) (hs : ∀ x, foldedSetIterable iter X.env x = pure x := by intro _; rfl) : SS X M W (.Assign [.Name y py] (.ListComp elt [⟨tg, iter, ifs, 0⟩] scope pos) spos) (setF i (lcO (own.map (·.2)) it t c e)) := by
  obtain ⟨g, hg, og⟩ := hg.ex
  exact ps_imp (ps_setLc (own := own) (tt := tT X.K M W0 c) (te := tE X.K M W0 e) hc hN hy hyl hsw hi ok (fun s H C cl fp => hg ⟨s, H, C, cl, fp⟩) (fun s H C cl fp => ht ⟨s, H, C, cl, fp⟩) (fun s H C cl fp => he ⟨s, H, C, cl, fp⟩) hs) fun D σ H h => tasg_of (fun Q h => tlc_of og hix fin_own h) h
end
end
end Sm
namespace Sm
open PySem PySem.Spec PyProof.Rows L2
section
variable {X : Cx} {M : Lm} {W : WX} {K : PySem.W.Frag} {z : Sg}
theorem atI_enc {H : Hp} {ow : Addr → Prop} {l : List D} {vs : List V} {k : Int} {d : D} (h : EncL K M H ow l vs) (e : atI l k = some d) : ∃ v, atI vs k = some v ∧ Enc K M H ow d v := by
  unfold atI at e ⊢
  rw [← h.length]
  cases r : ixN l.length k with
  | none =>
    rw [r] at e
    cases e
  | some j =>
    rw [r] at e
    exact h.get e
def lookD : List (D × D) → D → Option D
  | [], _ => none
  | (a, b) :: l, k => if a = k then some b else lookD l k
theorem dkey_inj {a b : D} {q : Key} (h : dkey a = some q) (h' : dkey b = some q) : a = b := by
  cases a <;> first
    | (cases h; done)
    | skip
  all_goals cases b <;> first
    | (cases h'; done)
    | skip
  all_goals (simp only [dkey, Option.some.injEq] at h h'; subst h; first | (injection h' with e; subst e; rfl) | (injection h'; done) | (injection h' with e; injection e with e; have := congrArg Array.toList e; simp at this; rw [this]))
theorem lookD_enc {H : Hp} {ow : Addr → Prop} {k : D} {q : Key} (hk : dkey k = some q) : ∀ {l : List (D × D)} {kvs : List (Key × V)}, EncP K M H ow l kvs →
    (∀ d, lookD l k = some d → ∃ v, valV kvs q = some v ∧ Enc K M H ow d v) ∧ (lookD l k = none → valV kvs q = none)
  | _, _, .nil => ⟨fun d e => (by cases e), fun _ => rfl⟩
  | _, _, .cons (k := k0) (q := q0) h0 e t => by
    have ih := lookD_enc hk t
    by_cases c : k0 = k
    · subst c
      rw [hk] at h0
      cases h0
      refine ⟨fun d e' => ?_, fun e' => ?_⟩
      · unfold lookD at e'
        rw [if_pos rfl] at e'
        cases e'
        exact ⟨_, valV_pos rfl, e⟩
      · unfold lookD at e'
        rw [if_pos rfl] at e'
        cases e'
    · have nq : ¬ q0 = q := fun r => by
        subst r
        exact c (dkey_inj h0 hk)
      refine ⟨fun d e' => ?_, fun e' => ?_⟩
      · unfold lookD at e'
        rw [if_neg c] at e'
        obtain ⟨v, h1, h2⟩ := ih.1 d e'
        exact ⟨v, (valV_neg nq).trans h1, h2⟩
      · unfold lookD at e'
        rw [if_neg c] at e'
        exact (valV_neg nq).trans (ih.2 e')
def getP (d : D) (S : Sto) : Option (List (D × D)) := match d with
  | .dic l => some l
  | .ref n => match S[n]? with
    | some (.dic _ l) => some l
    | _ => none
  | _ => none
theorem getP_ok {d : D} {v : V} {l : List (D × D)} (k : SOk K M z) (q : EncA K M z d v) (e : getP d z.S = some l) : ∃ a kvs, v = .ref a ∧ z.H a = some (.dK kvs) ∧ EncP K M z.H z.ow l kvs := by
  cases d with
  | dic l' =>
    cases q with
    | of q =>
      cases q with
      | dic r n h =>
        cases e
        exact ⟨_, _, rfl, r, h⟩
  | ref n =>
    have e' : (match z.S[n]? with
      | some (.dic _ l) => some l
      | _ => none) = some l := e
    cases r : z.S[n]? with
    | none =>
      rw [r] at e'
      cases e'
    | some o =>
      rw [r] at e'
      cases o with
      | lst fz l => cases e'
      | arr l => cases e'
      | dar ks l => cases e'
      | ins c ks l => cases e'
      | tpl l => cases e'
      | dic fz l' =>
        have e2 : some l' = some l := e'
        cases e2
        obtain ⟨a, kvs, rfl, _, h1, h2⟩ := ref_dic k q r
        exact ⟨a, kvs, rfl, h1, h2⟩
  | _ => cases e
def ixL {α : Type} (o : Option α) (f : α → Res D) : Res D := match o with
  | some a => f a
  | none => .bad
def ixD (a i : D) (S : Sto) : Res D := match a with
  | .tup l => match i with
    | .int k => ixL (atI l k) fun d => .ok d S
    | _ => .bad
  | .str s => match i with
    | .int k => if s.length ≤ LINE then ixL (atI s k) fun c => .ok (.str [c]) S else .bad
    | _ => .bad
  | a => match getL a S, i with
    | some l, .int k => ixL (atI l k) fun d => .ok d S
    | some _, _ => .bad
    | none, i => ixL (getP a S) fun l => ixL (dkey i) fun _ => ixL (lookD l i) fun d => .ok d S
def rIxP : R2 := fun x y H Q => ∃ (a : Addr) (kvs : List (Key × V)) (k : Key) (v : V), x = .ref a ∧ y = kV k ∧ H a = some (.dK kvs) ∧ valV kvs k = some v ∧ Q v H
theorem ix_dic (hu : X.A.units + 1 < cLine) : IxR X rIxP := by
  intro value slice pins s σ H x y v u Q I rx ry h hs
  obtain ⟨a, kvs, k, w, rfl, rfl, hd, hv, q⟩ := h
  obtain rfl : v = Value.ref a := rx
  have g : DGet H a (kV k) (some w) := by
    rw [← hv]
    exact DGet.k hd
  exact tail_any (ops := [.ref a, u]) (dict_typeIs I g) PySem.F.slot_dict_getitem.lookup (d_getItem hu I g ry fun w' s3 I3 rw' => ⟨w, H, I3, rw', q⟩) hs
theorem key_enc {i : D} {v : V} {q : Key} (e : EncA K M z i v) (h : dkey i = some q) : v = kV q := by
  cases i with
  | int j =>
    cases h
    exact encA_int e
  | str s =>
    cases h
    exact encA_str e
  | _ => cases h
theorem ix_ok (hu : X.A.units + 1 < cLine) : IxR X (rOp X.K M W ixD) := by
  intro value slice pins s σ H x y v u Q I rx ry hh hs
  obtain ⟨z, a, i, σ', rfl, k, qa, qi, h⟩ := hh
  have lists : ∀ l, getL a z.S = some l → ixD a i z.S = (match i with | .int j => ixL (atI l j) fun d => Res.ok d z.S | _ => .bad) → wpAny (model X.prog X.w) X.A (subscriptTail value slice v u) (EP X pins σ Q) X.xe s := by
    intro l hl e
    rw [e] at h
    cases i with
    | int j =>
      dsimp only at h
      cases r : atI l j with
      | none =>
        rw [r] at h
        exact h.elim
      | some d =>
        rw [r] at h
        obtain ⟨p, vs, rfl, h1, h2⟩ := getL_ok k qa hl
        obtain ⟨w, w1, w2⟩ := atI_enc h2 r
        rw [encA_int qi] at ry
        exact ix_list value slice pins s σ z.H _ _ v u Q I rx ry ⟨p, vs, j, w, rfl, rfl, h1, w1, out_same k (.of w2) h⟩ hs
    | _ => exact h.elim
  have dicts : ∀ l, getP a z.S = some l → ixD a i z.S = (ixL (dkey i) fun _ => ixL (lookD l i) fun d => Res.ok d z.S) → wpAny (model X.prog X.w) X.A (subscriptTail value slice v u) (EP X pins σ Q) X.xe s := by
    intro l hl e
    rw [e] at h
    cases hk : dkey i with
    | none =>
      rw [hk] at h
      exact h.elim
    | some q =>
      rw [hk] at h
      have h' : Out X.K M (EncA X.K M) W σ' z Q (ixL (lookD l i) fun d => Res.ok d z.S) := h
      cases r : lookD l i with
      | none =>
        rw [r] at h'
        exact h'.elim
      | some d =>
        rw [r] at h'
        obtain ⟨p, kvs, rfl, h1, h2⟩ := getP_ok k qa hl
        obtain ⟨w, w1, w2⟩ := (lookD_enc hk h2).1 d r
        exact ix_dic hu value slice pins s σ z.H _ _ v u Q I rx ry ⟨p, kvs, q, w, rfl, key_enc qi hk, h1, w1, out_same k (.of w2) h'⟩ hs
  cases a with
  | tup l =>
    cases i with
    | int j =>
      have h' : Out X.K M (EncA X.K M) W σ' z Q (ixL (atI l j) fun d => Res.ok d z.S) := h
      cases r : atI l j with
      | none =>
        rw [r] at h'
        exact h'.elim
      | some d =>
        rw [r] at h'
        obtain ⟨p, vs, rfl, h1, h2⟩ := encA_tup qa
        obtain ⟨w, w1, w2⟩ := atI_enc h2 r
        rw [encA_int qi] at ry
        exact ix_tup value slice pins s σ z.H _ _ v u Q I rx ry ⟨p, vs, j, w, rfl, rfl, h1, w1, out_same k (.of w2) h'⟩ hs
    | _ => exact h.elim
  | str t =>
    cases i with
    | int j =>
      have h' : Out X.K M (EncA X.K M) W σ' z Q (if t.length ≤ LINE then ixL (atI t j) fun c => Res.ok (.str [c]) z.S else .bad) := h
      by_cases c : t.length ≤ LINE
      · rw [if_pos c] at h'
        cases r : atI t j with
        | none =>
          rw [r] at h'
          exact h'.elim
        | some d =>
          rw [r] at h'
          rw [encA_int qi] at ry
          rw [encA_str qa] at rx
          exact ix_str value slice pins s σ z.H _ _ v u Q I rx ry ⟨_, j, d, rfl, rfl, by
            show t.toArray.size ≤ _
            rw [List.size_toArray, ← line_eq]
            exact c, by simpa using r, out_str k h'⟩ hs
      · rw [if_neg c] at h'
        exact h'.elim
    | _ => exact h.elim
  | lst l => exact lists l rfl (by cases i <;> rfl)
  | dic l => exact dicts l rfl (by cases i <;> rfl)
  | ref n =>
    cases hl : getL (.ref n) z.S with
    | some l => exact lists l hl (by
        show (match getL (.ref n) z.S, i with
          | some l, .int k => ixL (atI l k) fun d => Res.ok d z.S
          | some _, _ => .bad
          | none, i => ixL (getP (.ref n) z.S) fun l => ixL (dkey i) fun _ => ixL (lookD l i) fun d => .ok d z.S) = _
        rw [hl]
        cases i <;> rfl)
    | none =>
      have e : ixD (.ref n) i z.S = ixL (getP (.ref n) z.S) fun l => ixL (dkey i) fun _ => ixL (lookD l i) fun d => Res.ok d z.S := by
        show (match getL (.ref n) z.S, i with
          | some l, .int k => ixL (atI l k) fun d => Res.ok d z.S
          | some _, _ => .bad
          | none, i => ixL (getP (.ref n) z.S) fun l => ixL (dkey i) fun _ => ixL (lookD l i) fun d => .ok d z.S) = _
        rw [hl]
      cases hp : getP (.ref n) z.S with
      | none =>
        rw [e, hp] at h
        exact h.elim
      | some l => exact dicts l hp (by rw [e, hp]; rfl)
  | _ => exact h.elim
theorem s_ix {a b : Expr} {pos : Pos} {f g : Env → Sto → Res D} (hu : X.A.units + 1 < cLine) (ha : SE X M W a f) (hb : SE X M W b g) (hs : PlainIx b := by exact fun _ _ => rfl) : SE X M W (.Subscript a b pos) (binF ixD f g) :=
  pe_imp (pe_ix (ix_ok hu) ha hb hs) fun _ _ _ h => top_of h
def cutL {α : Type} (l : List α) (lo hi : Option Int) : List α := (l.drop (HT.sIx l.length 0 lo)).take (HT.sIx l.length l.length hi - HT.sIx l.length 0 lo)
theorem cut_enc {H : Hp} {ow : Addr → Prop} {l : List D} {vs : List V} (h : EncL K M H ow l vs) (lo hi : Option Int) : EncL K M H ow (cutL l lo hi) (cutV vs lo hi) := by
  unfold cutL cutV
  rw [← h.length]
  exact (h.drop _).take _
def cutD (a : D) (lo hi : Option Int) (S : Sto) : Res D := match a with
  | .tup l => .ok (.tup (cutL l lo hi)) S
  | .str s => if s.length ≤ LINE then .ok (.str (cutL s lo hi)) S else .bad
  | a => ixL (getL a S) fun l => .ok (.lst (cutL l lo hi)) S
def partF (f : Env → Sto → Res D) : Env → Sto → Res (Option Int) := fun env S => (f env S).bind fun d S1 => match d with
  | .int i => .ok (some i) S1
  | _ => .bad
def noPart : Env → Sto → Res (Option Int) := fun _ S => .ok none S
def SP' (X : Cx) (M : Lm) (W : WX) (e : Option Expr) (f : Env → Sto → Res (Option Int)) : Prop := PO X e (tG X.K M (fun _ a b => a = b) W f)
theorem sp_none : SP' X M W none noPart := ⟨fun pins s σ H Q I h => po_none.run pins s σ H Q I (by
  obtain ⟨env, z, rfl, k, v, h⟩ := h
  exact h z none rfl (Ext.refl z) k rfl)⟩
theorem sp_some {e : Expr} {f : Env → Sto → Res D} (h : SE X M W e f) : SP' X M W (some e) (partF f) := ⟨fun pins s σ H Q I hh => (po_some h).run pins s σ H Q I (by
  obtain ⟨env, z, rfl, k, v, hh⟩ := hh
  refine ⟨env, z, rfl, k, v, (Out.bind hh).imp fun b H1 q => ?_⟩
  obtain ⟨a, z1, rfl, _, x, k1, q, h1⟩ := q
  cases a with
  | int c => exact ⟨c, encA_int q, h1 z1 _ rfl (Ext.refl z1) k1 rfl⟩
  | _ => exact h1.elim)⟩
def rCut (K : PySem.W.Frag) (M : Lm) (W : WX) : V → Option Int → Option Int → Hp → VK → Prop := fun x lo hi H Q => ∃ z a σ, z.H = H ∧ SOk K M z ∧ EncA K M z a x ∧ Out K M (EncA K M) W σ z Q (cutD a lo hi z.S)
theorem cut_ok : SlR X (rCut X.K M W) := by
  intro pins s σ H x v vl vu lo hi sl Q I rx hs pl pu hh
  obtain ⟨z, a, σ', rfl, k, qa, h⟩ := hh
  have lists : ∀ l, getL a z.S = some l → cutD a lo hi z.S = .ok (.lst (cutL l lo hi)) z.S → ∃ T id, typeLookup (.type T) "__getitem__" = pure (some (.builtin id)) ∧ s.TypeIs v T ∧ wpAny (model X.prog X.w) X.A (getItem v (.ref sl)) (EP X pins σ Q) X.xe s := by
    intro l hl e
    rw [e] at h
    obtain ⟨p, vs, rfl, h1, h2⟩ := getL_ok k qa hl
    exact sl_list pins s σ z.H _ v vl vu lo hi sl Q I rx hs pl pu ⟨p, vs, rfl, h1, out_lst k (cut_enc h2 lo hi) h⟩
  cases a with
  | tup l =>
    have h' : Out X.K M (EncA X.K M) W σ' z Q (.ok (.tup (cutL l lo hi)) z.S) := h
    obtain ⟨p, vs, rfl, h1, h2⟩ := encA_tup qa
    refine sl_tupN pins s σ z.H _ v vl vu lo hi sl Q I rx hs pl pu ⟨p, vs, rfl, h1, fun c => ?_, fun _ => out_tup k (cut_enc h2 lo hi) h'⟩
    have e : cutL l lo hi = l := by
      unfold cutL
      rw [h2.length, c.1, c.2, Nat.sub_zero, ← h2.length]
      show (List.drop 0 l).take l.length = l
      rw [List.drop_zero, List.take_length]
    rw [e] at h'
    exact out_same k qa h'
  | str t =>
    have h' : Out X.K M (EncA X.K M) W σ' z Q (if t.length ≤ LINE then Res.ok (.str (cutL t lo hi)) z.S else .bad) := h
    by_cases c : t.length ≤ LINE
    · rw [if_pos c] at h'
      rw [encA_str qa] at rx
      refine sl_str pins s σ z.H _ v vl vu lo hi sl Q I rx hs pl pu ⟨_, rfl, by
        show t.toArray.size ≤ _
        rw [List.size_toArray, ← line_eq]
        exact c, ?_⟩
      have := out_str k h'
      unfold cutS
      show Q (.str ⟨((t.toArray.toList.drop (HT.sIx t.toArray.size 0 lo)).take (HT.sIx t.toArray.size t.toArray.size hi - HT.sIx t.toArray.size 0 lo)).toArray⟩) z.H
      rw [List.size_toArray, List.toList_toArray]
      exact this
    · rw [if_neg c] at h'
      exact h'.elim
  | lst l => exact lists l rfl rfl
  | ref n =>
    cases hl : getL (.ref n) z.S with
    | none =>
      have h' : Out X.K M (EncA X.K M) W σ' z Q (ixL (getL (.ref n) z.S) fun l => .ok (.lst (cutL l lo hi)) z.S) := h
      rw [hl] at h'
      exact h'.elim
    | some l => exact lists l hl (by
        show (ixL (getL (.ref n) z.S) fun l => Res.ok (.lst (cutL l lo hi)) z.S) = _
        rw [hl]
        rfl)
  | _ => exact h.elim
def sliceF (f : Env → Sto → Res D) (lo hi : Env → Sto → Res (Option Int)) : Env → Sto → Res D := fun env S => (f env S).bind fun a S1 => (lo env S1).bind fun l S2 => (hi env S2).bind fun h S3 => cutD a l h S3
theorem s_slice {e : Expr} {lo hi : Option Expr} {p2 pos : Pos} {f : Env → Sto → Res D} {fl fh : Env → Sto → Res (Option Int)} (he : SE X M W e f) (hl : SP' X M W lo fl) (hh : SP' X M W hi fh) : SE X M W (.Subscript e (.Slice lo hi none p2) pos) (sliceF f fl fh) := by
  refine pe_imp (pe_slice (cut_ok (M := M) (W := W)) he hl hh) fun σ H Q h => ?_
  obtain ⟨env, z, rfl, k, v, h⟩ := h
  refine ⟨env, z, rfl, k, v, (Out.bind h).imp fun b H1 q => ?_⟩
  obtain ⟨a, z1, rfl, _, x, k1, q, h1⟩ := q
  refine ⟨env, z1, rfl, k1, v.ext x, (Out.bind h1).imp fun b2 H2 q2 => ?_⟩
  obtain ⟨a2, z2, rfl, _, x2, k2, rfl, h2⟩ := q2
  refine ⟨env, z2, rfl, k2, (v.ext x).ext x2, (Out.bind h2).imp fun b3 H3 q3 => ?_⟩
  obtain ⟨a3, z3, rfl, _, x3, k3, rfl, h3⟩ := q3
  exact ⟨z3, a, σ, rfl, k3, (q.ext x2).ext x3, h3⟩
def putP : List (D × D) → D → D → List (D × D)
  | [], k, v => [(k, v)]
  | (a, b) :: l, k, v => if a = k then (a, v) :: l else (a, b) :: putP l k v
def keysOk : List (D × D) → Bool
  | [] => true
  | (a, _) :: l => decide (lookD l a = none) && keysOk l
def setIn (n : Nat) (i w : D) (S1 : Sto) : Res Unit := match S1[n]? with
  | some (.lst false l) => match i with
    | .int k => match ixN l.length k with
      | some j => .ok () (S1.set n (.lst false (l.set j w)))
      | none => .bad
    | _ => .bad
  | some (.dic false l) => match dkey i with
    | some _ => if (keysOk l && decide (l.length < LINE)) = true then .ok () (S1.set n (.dic false (putP l i w))) else .bad
    | none => .bad
  | _ => .bad
def setD (a i v : D) (S : Sto) : Res Unit := match a with
  | .ref n => (frz1 v S).bind (setIn n i)
  | _ => .bad
theorem map_same {q : Key} {y : V} : ∀ {kvs : List (Key × V)}, valV kvs q = none → kvs.map (fun kv => if kv.1 = q then (kv.1, y) else kv) = kvs
  | [], _ => rfl
  | p :: r, h => by
    by_cases c : p.1 = q
    · rw [valV_pos c] at h
      cases h
    · rw [valV_neg c] at h
      rw [List.map_cons, if_neg c, map_same h]
theorem putP_enc {H : Hp} {ow : Addr → Prop} {k w : D} {q : Key} {y : V} (hk : dkey k = some q) (hw : Enc K M H ow w y) : ∀ {l : List (D × D)} {kvs : List (Key × V)}, EncP K M H ow l kvs → keysOk l = true → EncP K M H ow (putP l k w) (putK kvs q y)
  | _, _, .nil, _ => .cons hk hw .nil
  | _, _, .cons (k := k0) (d := d0) (q := q0) (v := v0) (l := l) (vs := kvs) h0 e t, ok => by
    have ok' : lookD l k0 = none ∧ keysOk l = true := by
      unfold keysOk at ok
      rw [Bool.and_eq_true] at ok
      exact ⟨of_decide_eq_true ok.1, ok.2⟩
    have ih := putP_enc hk hw t ok'.2
    by_cases c : k0 = k
    · subst c
      rw [hk] at h0
      cases h0
      unfold putP putK
      rw [if_pos rfl, List.any_cons, decide_eq_true (show (q, v0).1 = q from rfl), Bool.true_or, if_pos rfl, List.map_cons, if_pos rfl, map_same ((lookD_enc hk t).2 ok'.1)]
      exact .cons hk hw t
    · have nq : ¬ (q0, v0).1 = q := fun r => by
        have r' : q0 = q := r
        subst r'
        exact c (dkey_inj h0 hk)
      have e2 : putK ((q0, v0) :: kvs) q y = (q0, v0) :: putK kvs q y := by
        unfold putK
        rw [List.any_cons, decide_eq_false nq, Bool.false_or]
        split
        · rw [List.map_cons, if_neg nq]
        · rfl
      unfold putP
      rw [if_neg c, e2]
      exact .cons h0 e ih
theorem encP_length {H : Hp} {ow : Addr → Prop} : ∀ {l : List (D × D)} {kvs : List (Key × V)}, EncP K M H ow l kvs → l.length = kvs.length
  | _, _, .nil => rfl
  | _, _, .cons _ _ t => by rw [List.length_cons, List.length_cons, encP_length t]
def rPut (K : PySem.W.Frag) (M : Lm) (W : WX) : TSet := fun o i v H Q => ∃ z a b c σ, z.H = H ∧ SOk K M z ∧ EncA K M z a o ∧ EncA K M z b i ∧ EncA K M z c v ∧ Out K M (fun _ (_ : Unit) (_ : Unit) => True) W σ z (fun _ H => Q H) (setD a b c z.S)
theorem put_ok (hu : X.A.units + 1 < cLine) : PSet X (rPut X.K M W) := by
  intro pins s σ H o i v ov iv u Q I ro ri rv hh
  obtain ⟨z, a, b, c, σ', rfl, k, qa, qb, qc, h⟩ := hh
  cases a with
  | ref n =>
    have h0 : Out X.K M (fun _ (_ : Unit) (_ : Unit) => True) W σ' z (fun _ H => Q H) ((frz1 c z.S).bind (setIn n b)) := h
    clear h
    cases rf : frz1 c z.S with
    | bad =>
      rw [rf] at h0
      exact h0.elim
    | ex _ _ => exact absurd rf frz1_nex
    | ok w S1 =>
      rw [rf] at h0
      obtain ⟨z1, e1, e2, x1, k1, q1⟩ := frz1_ok k qc rf
      subst e2
      have qa1 := qa.ext x1
      have qb1 := qb.ext x1
      have h1 := Out.rebase x1 h0
      dsimp only [Res.bind] at h1
      unfold setIn at h1
      rw [← e1] at I
      cases hn : z1.S[n]? with
      | none =>
        rw [hn] at h1
        exact h1.elim
      | some u =>
        rw [hn] at h1
        cases u with
        | arr l => exact h1.elim
        | dar ks l => exact h1.elim
        | ins c ks l => exact h1.elim
        | tpl l => exact h1.elim
        | lst fz l =>
          cases fz with
          | true => exact h1.elim
          | false =>
            dsimp only at h1
            cases b with
            | int j =>
              dsimp only at h1
              cases hj : ixN l.length j with
              | none =>
                rw [hj] at h1
                exact h1.elim
              | some m =>
                rw [hj] at h1
                obtain ⟨p, vs, rfl, hp, hv, hl⟩ := ref_lst k1 qa1 hn
                rw [encA_int qb1] at ri
                have hx := ext_wrt (o := .lst (vs.set m v)) (b := .lst false (l.set m w)) k1 hn hp rfl
                refine set_list pins s σ z1.H _ _ v ov iv _ Q I ro ri rv ⟨p, vs, j, m, rfl, rfl, hv, by rw [← hl.length]; exact hj, ?_⟩
                exact h1 (z1.wrt n p (.lst (vs.set m v)) (.lst false (l.set m w))) () rfl hx (sok_wrt k1 hn hp rfl ⟨vs.set m v, upd_same, (hl.set q1 m).mv hx.mv⟩) trivial
            | _ => exact h1.elim
        | dic fz l =>
          cases fz with
          | true => exact h1.elim
          | false =>
            dsimp only at h1
            cases hk : dkey b with
            | none =>
              rw [hk] at h1
              exact h1.elim
            | some q =>
              rw [hk] at h1
              dsimp only at h1
              by_cases ck : (keysOk l && decide (l.length < LINE)) = true
              · rw [if_pos ck] at h1
                rw [Bool.and_eq_true] at ck
                obtain ⟨p, kvs, rfl, hp, hv, hl⟩ := ref_dic k1 qa1 hn
                have ei : i = kV q := key_enc qb1 hk
                subst ei
                have hx := ext_wrt (o := .dK (putK kvs q v)) (b := .dic false (putP l b w)) k1 hn hp rfl
                obtain rfl : ov = Value.ref p := ro
                refine d_setItem hu I (DPut.k (v := v) hv (by
                  rw [← encP_length hl, ← line_eq]
                  exact of_decide_eq_true ck.2)) ri rv fun s4 I4 => ⟨_, I4, ?_⟩
                exact h1 (z1.wrt n p (.dK (putK kvs q v)) (.dic false (putP l b w))) () rfl hx (sok_wrt k1 hn hp rfl ⟨putK kvs q v, upd_same, (putP_enc hk q1 hl ck.1).mv hx.mv⟩) trivial
              · rw [if_neg ck] at h1
                exact h1.elim
  | _ => exact h.elim
def putF (o i e : Env → Sto → Res D) : Env → Sto → SR := fun env S => (e env S).thn env fun v S1 => (o env S1).thn env fun a S2 => (i env S2).thn env fun b S3 => (setD a b v S3).thn env fun _ S4 => .nx env S4
theorem ss_put {o i e : Expr} {pos pos' : Pos} {fo fi fe : Env → Sto → Res D} (hu : X.A.units + 1 < cLine) (ho : SE X M W o fo) (hi : SE X M W i fi) (he : SE X M W e fe)
    (ha : ∀ v, assign (.Subscript o i pos') X.env v = (do
      let ov ← holding [v] (eval o X.env)
      let iv ← holding [v, ov] (eval i X.env)
      standAt pos'
      holding [v, ov, iv] (setItem ov iv v)
      release [v, ov, iv] []) := by intro _; rfl)
    (hs : swapsWithSole [.Subscript o i pos'] e pos.line X.env = pure false := by rfl) (hw : swappedStores [.Subscript o i pos'] e X.env = pure none := by rfl)
    (h1 : (assignEach [.Subscript o i pos'] X.env).map (·.2) = [assign (.Subscript o i pos') X.env] := by rfl) : SS X M W (.Assign [.Subscript o i pos'] e pos) (putF fo fi fe) := by
  refine ps_imp (ps_asg he (pg_sub ho hi (put_ok (M := M) (W := W) hu) ha) hs hw h1) fun D σ H h => ?_
  obtain ⟨env, z, rfl, k, v, h⟩ := h
  refine ⟨env, z, rfl, k, v, (Out.thn v h).imp fun b H1 q => ?_⟩
  obtain ⟨a1, z1, rfl, _, x1, k1, q1, v1, h1⟩ := q
  refine ⟨env, z1, rfl, k1, v1, (Out.thn v1 h1).imp fun b H2 q => ?_⟩
  obtain ⟨a2, z2, rfl, _, x2, k2, q2, v2, h2⟩ := q
  refine ⟨env, z2, rfl, k2, v2, (Out.thn v2 h2).imp fun b H3 q => ?_⟩
  obtain ⟨a3, z3, rfl, _, x3, k3, q3, v3, h3⟩ := q
  refine ⟨z3, a2, a3, a1, σ, rfl, k3, q2.ext x3, q3, (q1.ext x2).ext x3, (Out.thn v3 h3).imp fun b H4 q => ?_⟩
  obtain ⟨a4, z4, rfl, _, x4, k4, _, v4, h4⟩ := q
  exact h4 z4 σ rfl (Ext.refl z4) k4 v4
end
end Sm
namespace Sm
open PySem PySem.Spec PyProof.Rows L2
section
variable {X : Cx} {M : Lm} {W : WX} {K : PySem.W.Frag} {z : Sg}
def sgL (s : List Nat) : List D := s.map fun c => .str [c]
def itS (f : Env → Sto → Res D) : Env → Sto → Res Itm := fun env S => (f env S).bind fun d S1 => match d with
  | .lst l => .ok ⟨l, none, none⟩ S1
  | .tup l => .ok ⟨l, none, none⟩ S1
  | .str s => .ok ⟨sgL s, none, none⟩ S1
  | .ref n => match S1[n]? with
    | some (.lst fz l) => .ok ⟨l, some n, some (.lst fz l)⟩ S1
    | _ => .bad
  | _ => .bad
def iSeq (K : PySem.W.Frag) (te : TE) : TI := fun σ H R => te σ H fun v H1 => (∃ a, v = .ref a ∧ (∃ xs, SqL K H1 a xs) ∧ R (Itl K a) H1) ∨ (∃ a, v = .ref a ∧ (∃ xs, SqT K H1 a xs) ∧ R (Itt K a) H1) ∨ (∃ x, v = .str x ∧ R (Its x) H1)
theorem pi_seq {tg l : Expr} {tl : TE} (hl : PE X l tl) : PI X tg l (iSeq X.K tl) := by
  refine ⟨fun pins s σ H R I h => ?_⟩
  refine thn (hl.run pins s σ H _ I h) fun v s1 ⟨x, H1, I1, r1, q1⟩ => ?_
  rcases q1 with ⟨a, e, ⟨xs, hq⟩, q⟩ | ⟨a, e, ⟨xs, hq⟩, q⟩ | ⟨y, e, q⟩
  · subst e
    cases r1
    obtain ⟨its, rv, p, hz⟩ := I1.list hq
    refine wpAny_pyIter_list p.isList ⟨s1.heap.objs.size, [s1.heap.objs.size], _, _, H1, rfl, I1.kept (t' := s1.toks) fun b o e => Heap.get?_push_of_some _ e, turn_list a _, ⟨_, Heap.get?_push_size _ rfl, rfl, rfl⟩, fun b hb => ?_, q⟩
    have e : b = s1.heap.objs.size := by simpa using hb
    subst e
    exact I1.fpOk (Nat.le_refl _) (I1.hok.fresh (Nat.le_refl _))
  · subst e
    cases r1
    obtain ⟨its, rv, p, hz⟩ := I1.tuple hq
    refine wpAny_pyIter_tuple (show s1.heap.IsTuple a its.toArray from p) ⟨s1.heap.objs.size, [s1.heap.objs.size], _, _, H1, rfl, I1.kept (t' := s1.toks) fun b o e => Heap.get?_push_of_some _ e, turn_tuple a _, ⟨_, Heap.get?_push_size _ rfl, rfl, rfl⟩, fun b hb => ?_, q⟩
    have e : b = s1.heap.objs.size := by simpa using hb
    subst e
    exact I1.fpOk (Nat.le_refl _) (I1.hok.fresh (Nat.le_refl _))
  · subst e
    obtain ⟨t, rfl⟩ := r1
    cases ha : y.cps.all (· < 128)
    · exact wpAny_pyIter_wide ha (pi_one (tk := s1.toks) I1 _ (turn_str _ y t "str_iterator" (.inr rfl)) ⟨_, Heap.get?_push_size _ rfl, rfl, rfl⟩ q)
    · exact wpAny_pyIter_ascii ha (pi_one (tk := s1.toks) I1 _ (turn_str _ y t "str_ascii_iterator" (.inl rfl)) ⟨_, Heap.get?_push_size _ rfl, rfl, rfl⟩ q)
theorem sgL_get {s : List Nat} {i : Nat} {d : D} (h : (sgL s)[i]? = some d) : ∃ c, s[i]? = some c ∧ d = .str [c] := by
  unfold sgL at h
  rw [List.getElem?_map] at h
  cases r : s[i]? with
  | none =>
    rw [r] at h
    cases h
  | some c =>
    rw [r] at h
    exact ⟨c, rfl, (Option.some.inj h).symm⟩
theorem si_seq {tg e : Expr} {f : Env → Sto → Res D} (h : SE X M W e f) : SI X M W tg e (itS f) := by
  refine ⟨fun pins s σ H R I q => (pi_seq h).run pins s σ H R I ?_⟩
  obtain ⟨env, z, rfl, k, v, h⟩ := q
  refine ⟨env, z, rfl, k, v, (Out.bind h).imp fun b H1 q => ?_⟩
  obtain ⟨d, z1, rfl, _, x, k1, q, h1⟩ := q
  cases d with
  | lst l =>
    cases q with
    | of q =>
      cases q with
      | lst r hl =>
        rename_i a vs
        refine .inl ⟨a, rfl, ⟨vs, r.rl.sq⟩, h1 z1 _ rfl (Ext.refl _) k1 ⟨fun n z => (by cases z), fun z2 x2 k2 _ i => ?_⟩⟩
        have q1 : SqL X.K z2.H a vs := (x2.mv.rl r).rl.sq
        have q2 := hl.mv x2.mv
        refine ⟨fun d hd => ?_, fun hi => ⟨vs, q1, by rw [← q2.length]; exact hi⟩⟩
        obtain ⟨w, w1, w2⟩ := q2.get hd
        refine ⟨⟨vs, w, q1, w1⟩, fun u H3 y => ?_⟩
        obtain ⟨rfl, y⟩ := y
        have e2 : u = w := Option.some.inj ((y vs q1).symm.trans w1)
        subst e2
        exact ⟨z2, rfl, rfl, Ext.refl _, k2, .of w2⟩
  | tup l =>
    cases q with
    | of q =>
      cases q with
      | tup r nd hl =>
        rename_i a vs
        refine .inr (.inl ⟨a, rfl, ⟨vs, r⟩, h1 z1 _ rfl (Ext.refl _) k1 ⟨fun n z => (by cases z), fun z2 x2 k2 _ i => ?_⟩⟩)
        have q1 := x2.mv.sqT r
        have q2 := hl.mv x2.mv
        refine ⟨fun d hd => ?_, fun hi => ⟨vs, q1, by rw [← q2.length]; exact hi⟩⟩
        obtain ⟨w, w1, w2⟩ := q2.get hd
        refine ⟨⟨vs, w, q1, w1⟩, fun u H3 y => ?_⟩
        obtain ⟨rfl, y⟩ := y
        have e2 : u = w := Option.some.inj ((y vs q1).symm.trans w1)
        subst e2
        exact ⟨z2, rfl, rfl, Ext.refl _, k2, .of w2⟩
  | str t =>
    refine .inr (.inr ⟨_, encA_str q, h1 z1 _ rfl (Ext.refl _) k1 ⟨fun n z => (by cases z), fun z2 x2 k2 _ i => ?_⟩⟩)
    refine ⟨fun d hd => ?_, fun hi => ?_⟩
    · obtain ⟨c, hc, rfl⟩ := sgL_get hd
      have hlt : i < t.length := (List.getElem?_eq_some_iff.mp hc).1
      refine ⟨by
        show i < t.toArray.size
        rw [List.size_toArray]
        exact hlt, fun u H3 y => ?_⟩
      obtain ⟨rfl, c', y, rfl⟩ := y
      have y' : t.toArray[i]? = some c' := y
      rw [List.getElem?_toArray, hc] at y'
      cases y'
      exact ⟨z2, rfl, rfl, Ext.refl _, k2, .of (.str [c])⟩
    · show t.toArray.size ≤ i
      rw [List.size_toArray]
      have hi' : (sgL t).length ≤ i := hi
      unfold sgL at hi'
      rw [List.length_map] at hi'
      exact hi'
  | ref n =>
    have h1' : Out X.K M _ W σ z1 R (match z1.S[n]? with
      | some (.lst fz l) => Res.ok ⟨l, some n, some (.lst fz l)⟩ z1.S
      | _ => Res.bad : Res Itm) := h1
    cases r : z1.S[n]? with
    | none =>
      rw [r] at h1'
      exact h1'.elim
    | some o =>
      rw [r] at h1'
      cases o with
      | dic fz l => exact h1'.elim
      | arr l => exact h1'.elim
      | dar ks l => exact h1'.elim
      | ins c ks l => exact h1'.elim
      | tpl l => exact h1'.elim
      | lst fz l =>
        obtain ⟨a, vs, rfl, ha, hv, hl⟩ := ref_lst k1 q r
        have en : z1.R[n]? = some a := ha
        refine .inl ⟨a, rfl, ⟨vs, SqL.of hv⟩, h1' z1 _ rfl (Ext.refl _) k1 ⟨fun m e => (by
          cases e
          exact r), fun z2 x2 k2 ok2 i => ?_⟩⟩
        obtain ⟨vs2, hv2, hl2⟩ := k2.obj n _ a (ok2 n rfl) (x2.rAt en)
        refine ⟨fun d hd => ?_, fun hi => ⟨vs2, SqL.of hv2, by rw [← hl2.length]; exact hi⟩⟩
        obtain ⟨w, w1, w2⟩ := hl2.get hd
        refine ⟨⟨vs2, w, SqL.of hv2, w1⟩, fun u H3 y => ?_⟩
        obtain ⟨rfl, y⟩ := y
        have e2 : u = w := Option.some.inj ((y vs2 (SqL.of hv2)).symm.trans w1)
        subst e2
        exact ⟨z2, rfl, rfl, Ext.refl _, k2, .of w2⟩
  | _ => exact h1.elim
def enumL : Nat → List D → List D
  | _, [] => []
  | n, d :: l => .tup [.int n, d] :: enumL (n + 1) l
theorem enumL_get : ∀ (l : List D) (n i : Nat) (d : D), (enumL n l)[i]? = some d → ∃ x, l[i]? = some x ∧ d = .tup [.int (n + i : Nat), x]
  | [], n, i, d, h => by simp [enumL] at h
  | y :: l, n, 0, d, h => by
    simp [enumL] at h
    exact ⟨y, rfl, by rw [← h]; rfl⟩
  | y :: l, n, i + 1, d, h => by
    simp only [enumL, List.getElem?_cons_succ] at h
    obtain ⟨x, h1, h2⟩ := enumL_get l (n + 1) i d h
    refine ⟨x, by simpa using h1, ?_⟩
    rw [h2, show n + 1 + i = n + (i + 1) by omega]
theorem enumL_length : ∀ (l : List D) (n : Nat), (enumL n l).length = l.length
  | [], _ => rfl
  | _ :: l, n => by rw [enumL, List.length_cons, List.length_cons, enumL_length l (n + 1)]
theorem pair_new {z2 : Sg} {T : Addr} {a b : D} {x y : V} (ln : Lent M [a, b]) (np : z2.H T = none) (k2 : SOk K M z2) (ha : Enc K M z2.H z2.ow a x) (hb : Enc K M z2.H z2.ow b y) :
    ∃ z3, z3.H = upd z2.H T (.tup [x, y]) ∧ z3.S = z2.S ∧ Ext z2 z3 ∧ SOk K M z3 ∧ EncA K M z3 (.tup [a, b]) (.ref T) :=
  ⟨z2.put T (.tup [x, y]), rfl, rfl, ext_put np k2, sok_put np k2, .of (.tup (SqT.of at_put) (.inr ln) ((EncL.cons ha (.cons hb .nil)).mv (ext_put np k2).mv))⟩
def itE (f : Env → Sto → Res (List D)) : Env → Sto → Res Itm := fun env S => (f env S).bind fun d S1 => match d with
  | [.lst l] => .ok ⟨enumL 0 l, none, none⟩ S1
  | [.ref n] => match S1[n]? with
    | some (.lst fz l) => .ok ⟨enumL 0 l, some n, some (.lst fz l)⟩ S1
    | _ => .bad
  | _ => .bad
theorem encA_lst {l : List D} {v : V} (q : EncA K M z (.lst l) v) : ∃ a vs, v = .ref a ∧ RL K z.H z.ow a vs ∧ EncL K M z.H z.ow l vs := by
  cases q with
  | of q =>
    cases q with
    | lst r hl => exact ⟨_, _, rfl, r, hl⟩
theorem si_enum {e : Expr} {p pos tpos : Pos} {elts : List Expr} {kk : Nat} {f : Env → Sto → Res (List D)} (ha : SA X M W [e] f) (hm : X.mg "enumerate" = none) (hg : Gl X "enumerate" := by rfl) (hs : starEach [e] X.env = [(false, eval e X.env)] := by rfl) :
    SI X M W (.Tuple elts kk tpos) (.Call (.Name "enumerate" p) [e] [] pos) (itE f) := by
  refine ⟨fun pins s σ H R I q => (pi_enum hg hm ha hs).run pins s σ H R I ?_⟩
  obtain ⟨env, z, rfl, k, v, h⟩ := q
  refine ⟨env, z, rfl, k, v, (Out.bind h).imp fun b H1 q => ?_⟩
  obtain ⟨d, z1, rfl, _, x, k1, q, h1⟩ := q
  match d, q, h1 with
  | [.lst l], q, h1 =>
    obtain ⟨w, rfl, e⟩ := encAs1 q
    obtain ⟨a, vs, rfl, r, hl⟩ := encA_lst e
    refine ⟨a, vs, rfl, r.rl.sq, h1 z1 _ rfl (Ext.refl _) k1 ⟨fun n z => (by cases z), fun z2 x2 k2 _ i => ?_⟩⟩
    have q1 : SqL X.K z2.H a vs := (x2.mv.rl r).rl.sq
    have q2 := hl.mv x2.mv
    refine ⟨fun d hd => ?_, fun hi => ⟨vs, q1, by
      have hi' : (enumL 0 l).length ≤ i := hi
      rw [enumL_length] at hi'
      rw [← q2.length]
      exact hi'⟩⟩
    obtain ⟨y, hy, rfl⟩ := enumL_get l 0 i d hd
    obtain ⟨w, w1, w2⟩ := q2.get hy
    refine ⟨⟨vs, w, q1, w1⟩, fun u H3 y => ?_⟩
    obtain ⟨T, x', rfl, np, rfl, y⟩ := y
    have e2 : x' = w := Option.some.inj ((y vs q1).symm.trans w1)
    subst e2
    rw [Nat.zero_add]
    exact pair_new ⟨rfl, .inr rfl⟩ np k2 (.int _) w2
  | [.ref n], q, h1 =>
    obtain ⟨w, rfl, e⟩ := encAs1 q
    have h1' : Out X.K M _ W σ z1 R (match z1.S[n]? with
      | some (.lst fz l) => Res.ok ⟨enumL 0 l, some n, some (.lst fz l)⟩ z1.S
      | _ => Res.bad : Res Itm) := h1
    cases r : z1.S[n]? with
    | none =>
      rw [r] at h1'
      exact h1'.elim
    | some o =>
      rw [r] at h1'
      cases o with
      | dic fz l => exact h1'.elim
      | arr l => exact h1'.elim
      | dar ks l => exact h1'.elim
      | ins c ks l => exact h1'.elim
      | tpl l => exact h1'.elim
      | lst fz l =>
        obtain ⟨a, vs, rfl, ha, hv, hl⟩ := ref_lst k1 e r
        have en : z1.R[n]? = some a := ha
        refine ⟨a, vs, rfl, SqL.of hv, h1' z1 _ rfl (Ext.refl _) k1 ⟨fun m e => (by
          cases e
          exact r), fun z2 x2 k2 ok2 i => ?_⟩⟩
        obtain ⟨vs2, hv2, hl2⟩ := k2.obj n _ a (ok2 n rfl) (x2.rAt en)
        refine ⟨fun d hd => ?_, fun hi => ⟨vs2, SqL.of hv2, by
          have hi' : (enumL 0 l).length ≤ i := hi
          rw [enumL_length] at hi'
          rw [← hl2.length]
          exact hi'⟩⟩
        obtain ⟨y, hy, rfl⟩ := enumL_get l 0 i d hd
        obtain ⟨w, w1, w2⟩ := hl2.get hy
        refine ⟨⟨vs2, w, SqL.of hv2, w1⟩, fun u H3 y => ?_⟩
        obtain ⟨T, x', rfl, np, rfl, y⟩ := y
        have e2 : x' = w := Option.some.inj ((y vs2 (SqL.of hv2)).symm.trans w1)
        subst e2
        rw [Nat.zero_add]
        exact pair_new ⟨rfl, .inr rfl⟩ np k2 (.int _) w2
end
end Sm
namespace Sm
open PySem PySem.Spec PyProof.Rows L2
section
variable {X : Cx} {M : Lm} {W : WX} {K : PySem.W.Frag} {z : Sg}
def hasTy (t : Ty) (d : D) (S : Sto) : Bool := match t with
  | .str => match d with
    | .str _ => true
    | _ => false
  | .list => (getL d S).isSome
  | .dict => (getP d S).isSome
  | _ => false
theorem hasTy_ok {t : Ty} {d : D} {v : V} (k : SOk K M z) (q : EncA K M z d v) (h : hasTy t d z.S = true) : tyV K t.name v z.H := by
  cases t with
  | str =>
    cases d with
    | str s =>
      rw [encA_str q]
      rfl
    | _ => cases h
  | list =>
    have h' : (getL d z.S).isSome = true := h
    cases r : getL d z.S with
    | none =>
      rw [r] at h'
      cases h'
    | some l =>
      obtain ⟨a, vs, rfl, h1, _⟩ := getL_ok k q r
      exact .inl ⟨rfl, vs, h1⟩
  | dict =>
    have h' : (getP d z.S).isSome = true := h
    cases r : getP d z.S with
    | none =>
      rw [r] at h'
      cases h'
    | some l =>
      obtain ⟨a, kvs, rfl, h1, _⟩ := getP_ok k q r
      exact .inr (.inr (.inl ⟨rfl, .inl ⟨kvs, h1⟩⟩))
  | _ => cases h
abbrev Mt := D → List D → Sto → Res D
def mtF (t : Ty) (m : Mt) (f : Env → Sto → Res D) (g : Env → Sto → Res (List D)) : Env → Sto → Res D := fun env S => (f env S).bind fun d S1 => if hasTy t d S1 = true then (g env S1).bind fun as S2 => m d as S2 else .bad
def mtF0 (t : Ty) (m : Mt) (f : Env → Sto → Res D) : Env → Sto → Res D := fun env S => (f env S).bind fun d S1 => if hasTy t d S1 = true then m d [] S1 else .bad
def rMt (K : PySem.W.Frag) (M : Lm) (W : WX) (m : Mt) : V → List V → Hp → VK → Prop := fun x xs H Q => ∃ z d as σ, z.H = H ∧ SOk K M z ∧ EncA K M z d x ∧ EncAs K M z as xs ∧ Out K M (EncA K M) W σ z Q (m d as z.S)
theorem s_mt {t : Ty} {m : Mt} {id : String} {name : Str} {o e : Expr} {es : List Expr} {apos cpos : Pos} {f : Env → Sto → Res D} {g : Env → Sto → Res (List D)} (hm : MtR X id (rMt X.K M W m)) (ho : SE X M W o f) (ha : SA X M W (e :: es) g) (pa : PlainAttrs t.name) (slot : Slot t.name name id) (hty : typeOf (.builtin id) = pure (.type "method_descriptor"))
    (hbase : attributeBase o name X.env (eval o X.env) = eval o X.env := by rfl)
    (hfew : ((backTo cpos (starEach (e :: es) X.env)).all (fun x => !x.1) && (backToKw cpos (keywordEach [] X.env)).all (fun x => x.1.isSome)
      && decide ((e :: es).length + ([] : List Keyword).length + (if ([] : List Keyword).isEmpty then 0 else 1) < 30)) = true := by rfl)
    (hline : (apos.endLine == cpos.line) = true := by rfl) (hs : starEach (e :: es) X.env = (false, eval e X.env) :: starEach es X.env := by rfl) (hplain : (backTo cpos (starEach es X.env)).any (·.1) = false := by rfl) :
    SE X M W (.Call (.Attribute o name apos) (e :: es) [] cpos) (mtF t m f g) := by
  refine pe_imp (pe_bm pa slot hty hm ho ha hbase hfew hline hs hplain) fun σ H Q h => ?_
  obtain ⟨env, z, rfl, k, v, h⟩ := h
  refine ⟨env, z, rfl, k, v, (Out.bind h).imp fun b H1 q => ?_⟩
  obtain ⟨d, z1, rfl, _, x, k1, q, h1⟩ := q
  by_cases c : hasTy t d z1.S = true
  · rw [if_pos c] at h1
    refine ⟨hasTy_ok k1 q c, env, z1, rfl, k1, v.ext x, (Out.bind h1).imp fun b2 H2 q2 => ?_⟩
    obtain ⟨as, z2, rfl, _, x2, k2, q2, h2⟩ := q2
    exact ⟨z2, d, as, σ, rfl, k2, q.ext x2, q2, h2⟩
  · rw [if_neg c] at h1
    exact h1.elim
theorem s_mt0 {t : Ty} {m : Mt} {id : String} {name : Str} {o : Expr} {apos cpos : Pos} {f : Env → Sto → Res D} (hm : MtR X id (rMt X.K M W m)) (ho : SE X M W o f) (pa : PlainAttrs t.name) (slot : Slot t.name name id) (hty : typeOf (.builtin id) = pure (.type "method_descriptor"))
    (hbase : attributeBase o name X.env (eval o X.env) = eval o X.env := by rfl) (hline : (apos.endLine == cpos.line) = true := by rfl) :
    SE X M W (.Call (.Attribute o name apos) [] [] cpos) (mtF0 t m f) := by
  refine pe_imp (pe_bm0 pa slot hty hm ho hbase hline) fun σ H Q h => ?_
  obtain ⟨env, z, rfl, k, v, h⟩ := h
  refine ⟨env, z, rfl, k, v, (Out.bind h).imp fun b H1 q => ?_⟩
  obtain ⟨d, z1, rfl, _, x, k1, q, h1⟩ := q
  by_cases c : hasTy t d z1.S = true
  · rw [if_pos c] at h1
    exact ⟨hasTy_ok k1 q c, z1, d, [], σ, rfl, k1, q, .nil, h1⟩
  · rw [if_neg c] at h1
    exact h1.elim
theorem mt_of {id : String} {m : Mt} (h : ∀ (d : D) (as : List D) (x : V) (xs : List V) (z : Sg) (σ' : St) (Q : VK), SOk X.K M z → EncA X.K M z d x → EncAs X.K M z as xs → Out X.K M (EncA X.K M) W σ' z Q (m d as z.S) → ∃ r, MtR X id r ∧ r x xs z.H Q) : MtR X id (rMt X.K M W m) := by
  intro pins s σ H x xs v us Q I rx rxs hh
  obtain ⟨z, d, as, σ', rfl, k, q, qs, hh⟩ := hh
  obtain ⟨r, h1, h2⟩ := h d as x xs z σ' Q k q qs hh
  exact h1 pins s σ z.H x xs v us Q I rx rxs h2
def appIn (n : Nat) (w : D) (S1 : Sto) : Res D := match S1[n]? with
  | some (.lst false l) => if l.length < LINE then .ok .non (S1.set n (.lst false (l ++ [w]))) else .bad
  | _ => .bad
def appM : Mt := fun d as S => match d, as with
  | .ref n, [y] => (frz1 y S).bind (appIn n)
  | _, _ => .bad
theorem app_ok : MtR X "list.append" (rMt X.K M W appM) := by
  intro pins s σ H x xs v us Q I rx rxs hh
  obtain ⟨z, d, as, σ', rfl, k, qa, qs, h⟩ := hh
  match d, as, qa, qs, h with
  | .ref n, [y], qa, qs, h =>
    obtain ⟨w, rfl, qy⟩ := encAs1 qs
    have h0 : Out X.K M (EncA X.K M) W σ' z Q ((frz1 y z.S).bind (appIn n)) := h
    clear h
    cases rf : frz1 y z.S with
    | bad =>
      rw [rf] at h0
      exact h0.elim
    | ex _ _ => exact absurd rf frz1_nex
    | ok u S1 =>
      rw [rf] at h0
      obtain ⟨z1, e1, e2, x1, k1, q1⟩ := frz1_ok k qy rf
      subst e2
      have qa1 := qa.ext x1
      have h1 := Out.rebase x1 h0
      dsimp only [Res.bind] at h1
      unfold appIn at h1
      rw [← e1] at I
      cases hn : z1.S[n]? with
      | none =>
        rw [hn] at h1
        exact h1.elim
      | some o =>
        rw [hn] at h1
        cases o with
        | dic fz l => exact h1.elim
        | arr l => exact h1.elim
        | dar ks l => exact h1.elim
        | ins c ks l => exact h1.elim
        | tpl l => exact h1.elim
        | lst fz l =>
          cases fz with
          | true => exact h1.elim
          | false =>
            dsimp only at h1
            by_cases cl : l.length < LINE
            · rw [if_pos cl] at h1
              obtain ⟨p, vs, rfl, hp, hv, hl⟩ := ref_lst k1 qa1 hn
              have hx := ext_wrt (o := .lst (vs ++ [w])) (b := .lst false (l ++ [u])) k1 hn hp rfl
              refine mt_append pins s σ z1.H _ _ v us Q I rx rxs ⟨p, vs, w, rfl, rfl, hv, by rw [← hl.length, ← line_eq]; exact cl, ?_⟩
              exact h1 (z1.wrt n p (.lst (vs ++ [w])) (.lst false (l ++ [u]))) .non rfl hx (sok_wrt k1 hn hp rfl ⟨vs ++ [w], upd_same, (hl.app (.cons q1 .nil)).mv hx.mv⟩) (.of .non)
            · rw [if_neg cl] at h1
              exact h1.elim
def toS (s : List Nat) : Str := ⟨s.toArray⟩
end
end Sm
namespace Sm
open PySem PySem.Spec PyProof.Rows L2
section
variable {X : Cx} {M : Lm} {W : WX} {K : PySem.W.Frag} {z : Sg}
def strD (y : Str) : D := .str y.cps.toList
theorem strD_enc {H : Hp} {ow : Addr → Prop} (y : Str) : Enc K M H ow (strD y) (.str y) := by
  have := Enc.str (K := K) (M := M) (H := H) (ow := ow) y.cps.toList
  rw [Array.toArray_toList] at this
  exact this
def findEq (y : D) : List D → Nat → Option Nat
  | [], _ => none
  | x :: l, n => if eqV x y = true then some n else findEq y l (n + 1)
def lindexM : Mt := fun d as S => match as with
  | [y] => match getL d S with
    | some l => if (okL 59 l && plain y S) = true then ixL (findEq (see y S) l 0) fun i => .ok (.int (i : Nat)) S else .bad
    | none => .bad
  | _ => .bad
theorem findEq_ok (y : D) : ∀ (l : List D) (n i : Nat), findEq y l n = some i → ∃ j x, i = n + j ∧ l[j]? = some x ∧ eqV x y = true ∧ ∀ m x', m < j → l[m]? = some x' → eqV x' y = false
  | [], _, _, h => by cases h
  | x :: l, n, i, h => by
    unfold findEq at h
    by_cases c : eqV x y = true
    · rw [if_pos c] at h
      cases h
      exact ⟨0, x, rfl, rfl, c, fun m x' hm => absurd hm (Nat.not_lt_zero m)⟩
    · rw [if_neg c] at h
      obtain ⟨j, x1, rfl, h1, h2, h3⟩ := findEq_ok y l (n + 1) i h
      refine ⟨j + 1, x1, by omega, h1, h2, fun m x' hm hx => ?_⟩
      cases m with
      | zero =>
        cases hx
        exact eq_false_of_ne_true c
      | succ m => exact h3 m x' (by omega) hx
theorem okL_at {n : Nat} : ∀ {l : List D} {i : Nat} {d : D}, okL n l = true → l[i]? = some d → okD n d = true
  | [], _, _, _, h => by cases h
  | x :: l, 0, _, k, h => by
    cases h
    unfold okL at k
    rw [Bool.and_eq_true] at k
    exact k.1
  | x :: l, i + 1, _, k, h => by
    unfold okL at k
    rw [Bool.and_eq_true] at k
    exact okL_at k.2 h
theorem lindex_ok (hu : X.A.units + 65 < cLine) : MtR X "list.index" (rMt X.K M W lindexM) := mt_of fun d as x xs z σ' Q k qa qs h => by
  match as, qs, h with
  | [y], qs, h =>
    obtain ⟨w, rfl, qy⟩ := encAs1 qs
    have h' : Out X.K M (EncA X.K M) W σ' z Q (match getL d z.S with
      | some l => if (okL 59 l && plain y z.S) = true then ixL (findEq (see y z.S) l 0) fun i => Res.ok (.int (i : Nat)) z.S else .bad
      | none => .bad) := h
    cases r : getL d z.S with
    | none =>
      rw [r] at h'
      exact h'.elim
    | some l =>
      rw [r] at h'
      dsimp only at h'
      by_cases c : (okL 59 l && plain y z.S) = true
      · rw [if_pos c] at h'
        rw [Bool.and_eq_true] at c
        obtain ⟨a, vs, rfl, h1, h2⟩ := getL_ok k qa r
        obtain ⟨p1, p2⟩ := plain_dp k qy c.2
        cases e : findEq (see y z.S) l 0 with
        | none =>
          rw [e] at h'
          exact h'.elim
        | some i =>
          rw [e] at h'
          obtain ⟨j, x1, ei, g1, g2, g3⟩ := findEq_ok _ l 0 i e
          rw [Nat.zero_add] at ei
          subst ei
          have hl60 : okD 60 (.lst l) = true := c.1
          refine ⟨_, mt_indexD hu, a, w, py (see y z.S), pyL l, i, py x1, rfl, rfl, .lst h1 (encL_dp l 59 vs c.1 h2), p1, shaped_of hl60, shaped_of p2, ?_, ?_, fun m z' hm hz => ?_, out_int k h'⟩
          · rw [pyL_map, List.getElem?_map, g1]
            rfl
          · rw [eqV_py x1 _ 59 60 (okL_at c.1 g1) p2]
            exact g2
          · rw [pyL_map, List.getElem?_map] at hz
            cases hm2 : l[m]? with
            | none =>
              rw [hm2] at hz
              cases hz
            | some x' =>
              rw [hm2] at hz
              cases hz
              rw [eqV_py x' _ 59 60 (okL_at c.1 hm2) p2]
              exact g3 m x' hm hm2
      · rw [if_neg c] at h'
        exact h'.elim
def reprD (d : D) : List Nat := (py d).shown.cps.toList
def canRepr (d : D) : Bool := (py d).showable && decide ((py d).shown.length ≤ LINE)
def reprM : Fn := fun as S => match as with
  | [d] => if (plain d S && canRepr (see d S)) = true then .ok (.str (reprD (see d S))) S else .bad
  | _ => .bad
theorem out_strD {σ : St} {Q : VK} {y : Str} (k : SOk K M z) (h : Out K M (EncA K M) W σ z Q (.ok (.str y.cps.toList) z.S)) : Q (.str y) z.H := by
  have := out_str k h
  rw [Array.toArray_toList] at this
  exact this
theorem noDict : ∀ (d : D) (n : Nat), okD n d = true → (py d).hasDict = false := fun d n h => PyData.hasDict_of_canLay _ (shaped_py d n h).1
theorem dp_scalar {d : PyData} {v : V} {H : Hp} (h : Dp K H v d) : (∃ i, v = .int i ∧ d = .int i) ∨ (∃ b, v = .bl b ∧ d = .bool b) ∨ (∃ s, v = .str s ∧ d = .str s) ∨ (v = .non ∧ d = .none) ∨ ∃ a, v = .ref a := by
  cases h with
  | int i => exact .inl ⟨i, rfl, rfl⟩
  | bl b => exact .inr (.inl ⟨b, rfl, rfl⟩)
  | str s => exact .inr (.inr (.inl ⟨s, rfl, rfl⟩))
  | non => exact .inr (.inr (.inr (.inl ⟨rfl, rfl⟩)))
  | _ => exact .inr (.inr (.inr (.inr ⟨_, rfl⟩)))
theorem call_repr (hg : X.A.guards = some []) (hu : X.A.units + 65 < cLine) : CallR X (.builtin "repr") (fun xs H Q => ∃ v d, xs = [v] ∧ Dp X.K H v d ∧ d.showable = true ∧ d.hasDict = false ∧ d.depth ≤ 60 ∧ d.shown.length ≤ sizeLine ∧ Q (.str d.shown) H) := by
  intro pins s σ H xs us Q I r h
  obtain ⟨v, d, rfl, hd, hs, hnd, hdp, hl, q⟩ := h
  obtain ⟨u, rfl, ru⟩ := vals1 r
  rcases dp_scalar hd with ⟨i, rfl, rfl⟩ | ⟨b, rfl, rfl⟩ | ⟨y, rfl, rfl⟩ | ⟨rfl, rfl⟩ | ⟨a, rfl⟩
  · obtain ⟨t, rfl⟩ := ru
    exact PySem.P.repr_of_int (of_decide_eq_true hs) ⟨.str _, H, I.tok _, ⟨_, rfl⟩, q⟩
  · cases ru
    refine PySem.P.repr_of_bool ⟨.str _, H, I.tok _, ⟨_, rfl⟩, ?_⟩
    cases b <;> exact q
  · obtain ⟨t, rfl⟩ := ru
    exact PySem.P.repr_of_str ⟨.str _, H, I.tok _, ⟨_, rfl⟩, q⟩ hl
  · cases ru
    exact PySem.P.repr_of_none ⟨.str _, H, I.tok _, ⟨_, rfl⟩, q⟩
  · obtain ⟨as, rd⟩ := Dp.reads I d _ u hd ru
    cases ru
    exact PySem.repr_of_reads' rd hs (PyData.noDict_hsm hnd) hg (by omega) (fun _ _ e => e) (fun h' u tk hk => ⟨.str _, H, I.kept hk, ⟨_, rfl⟩, q⟩) hl
theorem repr_ok (hg : X.A.guards = some []) (hu : X.A.units + 65 < cLine) : CallR X (.builtin "repr") (rCl X.K M W reprM) := call_of fun as xs z σ' Q k qa h => by
  match as, qa, h with
  | [d], qa, h =>
    obtain ⟨v, rfl, q⟩ := encAs1 qa
    have h' : Out X.K M (EncA X.K M) W σ' z Q (if (plain d z.S && canRepr (see d z.S)) = true then .ok (.str (reprD (see d z.S))) z.S else .bad) := h
    by_cases c : (plain d z.S && canRepr (see d z.S)) = true
    · rw [if_pos c] at h'
      rw [Bool.and_eq_true] at c
      obtain ⟨c1, c2⟩ := c
      unfold canRepr at c2
      rw [Bool.and_eq_true] at c2
      obtain ⟨p1, p2⟩ := plain_dp k q c1
      refine ⟨_, call_repr hg hu, v, py (see d z.S), rfl, p1, c2.1, noDict _ _ p2, (shaped_py _ _ p2).2, ?_, out_strD k h'⟩
      rw [← line_eq]
      exact of_decide_eq_true c2.2
    · rw [if_neg c] at h'
      exact h'.elim
end
end Sm
namespace Sm
open PySem PySem.Spec PyProof.Rows L2
section
variable {X : Cx} {M : Lm} {W : WX} {K : PySem.W.Frag} {z : Sg}
def isN63 (n : Int) : Bool := decide (-(2 ^ 63) ≤ n) && decide (n < 2 ^ 63)
def repL {α : Type} (l : List α) : Nat → List α
  | 0 => []
  | n + 1 => l ++ repL l n
theorem repL_eq {α : Type} (l : List α) : ∀ n, repL l n = (List.replicate n l).flatten
  | 0 => rfl
  | n + 1 => by rw [repL, repL_eq l n, List.replicate_succ, List.flatten_cons]
theorem repL_enc {H : Hp} {ow : Addr → Prop} {l : List D} {vs : List V} (h : EncL K M H ow l vs) : ∀ n, EncL K M H ow (repL l n) (List.replicate n vs).flatten
  | 0 => .nil
  | n + 1 => by
    rw [repL, List.replicate_succ, List.flatten_cons]
    exact h.app (repL_enc h n)
theorem repL_length {α : Type} (l : List α) : ∀ n, (repL l n).length = l.length * n
  | 0 => rfl
  | n + 1 => by rw [repL, List.length_append, repL_length l n, Nat.mul_succ, Nat.add_comm]
def mulD (a b : D) (S : Sto) : Res D := match a, b with
  | .int i, .int j => if cMul i j = true then .ok (.int (i * j)) S else .bad
  | .str s, .int n => if (isN63 n && decide (s.length * n.toNat ≤ LINE)) = true then .ok (.str (repL s n.toNat)) S else .bad
  | .tup l, .int n => if (decide (l ≠ []) && (decide (2 ≤ n) && (decide (n ≤ 1000) && decide (l.length ≤ 1000)))) = true then .ok (.tup (repL l n.toNat)) S else .bad
  | a, .int n => match getL a S with
    | some l => if (isN63 n && decide (l.length * n.toNat ≤ LINE)) = true then .ok (.lst (repL l n.toNat)) S else .bad
    | none => .bad
  | _, _ => .bad
theorem foldl_cps (s : Array Nat) : ∀ (k : Nat) (acc : List Nat), List.foldl (fun x1 x2 => x1 ++ x2) acc.toArray (List.replicate k s) = (acc ++ repL s.toList k).toArray
  | 0, acc => by simp [repL]
  | k + 1, acc => by
    have e : acc.toArray ++ s = (acc ++ s.toList).toArray := by
      apply Array.ext'
      simp
    rw [List.replicate_succ, List.foldl_cons, e, foldl_cps s k (acc ++ s.toList), repL, List.append_assoc]
theorem op_mulS : OpR X (binaryOp .Mult) (fun x y H Q => ∃ (s : List Nat) (n : Int), x = .str ⟨s.toArray⟩ ∧ y = .int n ∧ -(2 ^ 63) ≤ n ∧ n < 2 ^ 63 ∧ s.length * n.toNat ≤ sizeLine ∧ Q (.str ⟨(repL s n.toNat).toArray⟩) H) := by
  intro pins s σ H x y v u Q I rx ry h
  obtain ⟨a, n, rfl, rfl, h1, h2, hz, q⟩ := h
  obtain ⟨t, rfl⟩ := rx
  obtain ⟨t', rfl⟩ := ry
  have hs : (⟨a.toArray⟩ : Str).length = a.length := List.size_toArray ..
  have hl := sizeLine_eq
  refine PySem.P.mul_str (by
      have c1 : ¬ n < -(2 ^ 63) := by omega
      have c2 : ¬ n ≥ 2 ^ 63 := by omega
      rw [decide_eq_false c1, decide_eq_false c2]
      rfl) (fun hn _ => ?_) (fun hn _ => ?_) ?_
  · rw [hs]
    have e : ((a.length : Int)) ≤ (2 ^ 63 - 1) / n := by
      rw [Int.le_ediv_iff_mul_le (by omega)]
      have e1 : ((a.length * n.toNat : Nat) : Int) ≤ (16777216 : Nat) := Int.ofNat_le.mpr (by rw [← hl]; exact hz)
      rw [Int.natCast_mul, Int.toNat_of_nonneg (by omega)] at e1
      omega
    omega
  · rw [hs]
    unfold Builtin.Str.tooLong
    exact decide_eq_false (by omega)
  · by_cases c : n < 1
    · rw [if_pos c]
      have e : n.toNat = 0 := by omega
      rw [e] at q
      exact ⟨Nat.zero_le _, .str _, H, I.tok _, ⟨_, rfl⟩, q⟩
    · rw [if_neg c]
      by_cases c2 : (n == 1 || (⟨a.toArray⟩ : Str).length == 0) = true
      · rw [if_pos c2]
        have e : repL a n.toNat = a := by
          rw [Bool.or_eq_true] at c2
          rcases c2 with c2 | c2
          · have : n = 1 := eq_of_beq c2
            rw [this]
            show a ++ [] = a
            exact List.append_nil a
          · rw [hs] at c2
            have : a = [] := List.eq_nil_of_length_eq_zero (eq_of_beq c2)
            rw [this, repL_eq]
            simp
        rw [e] at q
        exact ⟨.str _, H, I, ⟨_, rfl⟩, q⟩
      · rw [if_neg c2]
        have e : ∀ m : Nat, (List.replicate m a.toArray).foldl (· ++ ·) #[] = (repL a m).toArray := fun m => by
          have := foldl_cps a.toArray m []
          rw [List.nil_append] at this
          exact this
        have q' : Q (.str ⟨(List.replicate n.toNat a.toArray).foldl (· ++ ·) #[]⟩) H := by
          rw [e]
          exact q
        refine ⟨?_, .str _, H, I.tok _, ⟨_, rfl⟩, q'⟩
        show (List.foldl (fun x1 x2 => x1 ++ x2) #[] (List.replicate n.toNat a.toArray)).size ≤ sizeLine
        rw [e, List.size_toArray, repL_length]
        exact hz
theorem op_repR : OpR X (binaryOp .Mult) (fun x y H Q => ∃ l k xs, x = .ref l ∧ y = .int k ∧ Rl X.K H l xs ∧ -(2 ^ 63) ≤ k ∧ k < 2 ^ 63 ∧ xs.length * k.toNat ≤ sizeLine ∧ ∀ p, H p = none → Q (.ref p) (upd H p (.lst (List.replicate k.toNat xs).flatten))) := by
  intro pins s σ H x y v u Q I rx ry h
  obtain ⟨l, k, xs, rfl, rfl, hH, h1, h2, hz, q⟩ := h
  cases rx
  obtain ⟨t, rfl⟩ := ry
  obtain ⟨z, its, n, r, hl, e⟩ := rdM I hH
  have hlen : its.toArray.size * k.toNat ≤ sizeLine := by
    rw [List.size_toArray, ← hl]
    exact hz
  have hbig : (sizeLine : Nat) ≤ (2 ^ 63 - 1) / 8 := by decide
  have hnew : List.foldl (fun x1 x2 => x1 ++ x2) #[] (List.replicate (if its.toArray.isEmpty = true then 0 else k.toNat) its.toArray) = (List.replicate k.toNat its).flatten.toArray := by
    have f0 : ∀ m : Nat, List.foldl (fun x1 x2 => x1 ++ x2) #[] (List.replicate m its.toArray) = (List.replicate m its).flatten.toArray := fun m => by
      have := foldl_rep its m []
      rw [List.nil_append] at this
      exact this
    rw [f0]
    cases its with
    | nil => simp
    | cons a r' => rw [if_neg (by simp)]
  refine wpAny_binaryOp_repeat_ref (T := "list") (U := "int") (by decide) ⟨_, e, rfl⟩ (fun s' => typeIs_int s' k t) noFill_list_mul F.fills_int_mul F.slot_int_rmul repeat_list F.slot_int_index.lookup
    (call_meets F.slot_int_rmul (typeIs_int s k t) F.entry_int_rmul (F.args_int_rmul_2 _ _) (int___rmul___int_list k t l its.toArray n)
      ⟨e, rfl, ⟨_, e, rfl⟩, call_meets F.slot_list_mul ⟨_, e, rfl⟩ F.entry_list_mul (F.args_list_mul_2 _ _) (AutoListH.list___mul___list_int_3 l its.toArray n k t (by
        rw [fitsIndex_both h1 h2]
        exact Bool.false_ne_true) (by omega) (by
        rw [notLongL hlen]
        exact Bool.false_ne_true)) ⟨e, ?_⟩⟩)
  rw [hnew]
  exact ⟨.ref _, _, I.lnew (t' := s.toks) (r.rep k.toNat) (by
    rw [PyProof.Rows.lm_len_rep_flat, Nat.mul_comm]
    exact hz), rfl, q _ I.fresh⟩
theorem isN63_ok {n : Int} (h : isN63 n = true) : -(2 ^ 63) ≤ n ∧ n < 2 ^ 63 := by
  unfold isN63 at h
  rw [Bool.and_eq_true] at h
  exact ⟨of_decide_eq_true h.1, of_decide_eq_true h.2⟩
theorem mul_ok : OpR X (binaryOp .Mult) (rOp X.K M W mulD) := by
  intro pins s σ H x y v u Q I rx ry hh
  have hcopy := hh
  obtain ⟨z, a, b, σ', rfl, k, qa, qb, h⟩ := hh
  have lists : ∀ n, b = .int n → mulD a b z.S = (match getL a z.S with
    | some l => if (isN63 n && decide (l.length * n.toNat ≤ LINE)) = true then .ok (.lst (repL l n.toNat)) z.S else .bad
    | none => .bad) → wpAny (model X.prog X.w) X.A (binaryOp .Mult v u) (EP X pins σ Q) X.xe s := fun n e em => by
    subst e
    rw [em] at h
    cases r : getL a z.S with
    | none =>
      rw [r] at h
      exact h.elim
    | some l =>
      rw [r] at h
      dsimp only at h
      by_cases c : (isN63 n && decide (l.length * n.toNat ≤ LINE)) = true
      · rw [if_pos c] at h
        rw [Bool.and_eq_true] at c
        obtain ⟨p, vs, rfl, h1, h2⟩ := getL_rd k qa r
        have c1 := isN63_ok c.1
        rw [encA_int qb] at ry
        exact op_repR pins s σ z.H _ _ v u Q I rx ry ⟨p, n, vs, rfl, rfl, h1, c1.1, c1.2, by
          rw [← h2.length, ← line_eq]
          exact of_decide_eq_true c.2, out_lst k (repL_enc h2 _) h⟩
      · rw [if_neg c] at h
        exact h.elim
  cases b with
  | int n =>
    cases a with
    | int i => exact mul_int_ok (M := M) (W := W) pins s σ z.H _ _ v u Q I rx ry ⟨z, .int i, .int n, σ', rfl, k, qa, qb, h⟩
    | str t =>
      have h' : Out X.K M (EncA X.K M) W σ' z Q (if (isN63 n && decide (t.length * n.toNat ≤ LINE)) = true then .ok (.str (repL t n.toNat)) z.S else .bad) := h
      by_cases c : (isN63 n && decide (t.length * n.toNat ≤ LINE)) = true
      · rw [if_pos c] at h'
        rw [Bool.and_eq_true] at c
        have c1 := isN63_ok c.1
        rw [encA_str qa] at rx
        rw [encA_int qb] at ry
        exact op_mulS pins s σ z.H _ _ v u Q I rx ry ⟨t, n, rfl, rfl, c1.1, c1.2, by
          rw [← line_eq]
          exact of_decide_eq_true c.2, out_str k h'⟩
      · rw [if_neg c] at h'
        exact h'.elim
    | tup l =>
      have h' : Out X.K M (EncA X.K M) W σ' z Q (if (decide (l ≠ []) && (decide (2 ≤ n) && (decide (n ≤ 1000) && decide (l.length ≤ 1000)))) = true then .ok (.tup (repL l n.toNat)) z.S else .bad) := h
      by_cases c : (decide (l ≠ []) && (decide (2 ≤ n) && (decide (n ≤ 1000) && decide (l.length ≤ 1000)))) = true
      · rw [if_pos c] at h'
        rw [Bool.and_eq_true, Bool.and_eq_true, Bool.and_eq_true] at c
        obtain ⟨p, vs, rfl, h1, h2⟩ := encA_tup qa
        rw [encA_int qb] at ry
        have hln := h2.length
        exact op_repN pins s σ z.H _ _ v u Q I rx ry ⟨p, n, vs, rfl, rfl, h1, fun e => by
          subst e
          exact of_decide_eq_true c.1 (List.eq_nil_of_length_eq_zero hln), of_decide_eq_true c.2.1, of_decide_eq_true c.2.2.1, by
          rw [← hln]
          exact of_decide_eq_true c.2.2.2, out_tup k (repL_enc h2 _) h'⟩
      · rw [if_neg c] at h'
        exact h'.elim
    | _ => exact lists n rfl rfl
  | _ => exact (by cases a <;> exact h : False).elim
mutual
def kcB (K : PySem.W.Frag) : D → Value → Bool
  | .non, .none => true
  | .bl b, .bool c => b == c
  | .int i, .int j _ => i == j
  | .str s, .str t _ => s == t.cps.toList
  | .tup l, .ref a => match K.lookup a with
    | some ⟨.type T, none, .seq its _, _⟩ => (T == "tuple" && decide (its.size ≤ sizeLine)) && kcL K l its.toList
    | _ => false
  | _, _ => false
def kcL (K : PySem.W.Frag) : List D → List Value → Bool
  | [], [] => true
  | d :: l, v :: r => kcB K d v && kcL K l r
  | _, _ => false
end
mutual
theorem kcB_ok {K : PySem.W.Frag} {M : Lm} : ∀ (d : D) (u : Value), kcB K d u = true → ∃ v, RelV v u ∧ ∀ (H : Hp) (ow : Addr → Prop), Enc K M H ow d v
  | .non, u, h => by
    cases u <;> first
      | exact ⟨.non, rfl, fun _ _ => .non⟩
      | (simp [kcB] at h; done)
  | .bl b, u, h => by
    cases u with
    | bool c =>
      unfold kcB at h
      have e : b = c := eq_of_beq h
      subst e
      exact ⟨.bl b, rfl, fun _ _ => .bl b⟩
    | _ => simp [kcB] at h
  | .int i, u, h => by
    cases u with
    | int j t =>
      unfold kcB at h
      have e : i = j := eq_of_beq h
      subst e
      exact ⟨.int i, ⟨t, rfl⟩, fun _ _ => .int i⟩
    | _ => simp [kcB] at h
  | .str s, u, h => by
    cases u with
    | str y t =>
      unfold kcB at h
      have e : s = y.cps.toList := eq_of_beq h
      subst e
      exact ⟨.str y, ⟨t, rfl⟩, fun _ _ => strD_enc y⟩
    | _ => simp [kcB] at h
  | .tup l, u, h => by
    cases u with
    | ref a =>
      unfold kcB at h
      split at h
      · rename_i e
        rw [Bool.and_eq_true, Bool.and_eq_true] at h
        have eT := eq_of_beq h.1.1
        subst eT
        obtain ⟨vs, r1, r2⟩ := kcL_ok (M := M) l _ h.2
        exact ⟨.ref a, rfl, fun H ow => .tup (.inr ⟨_, _, _, e, rfl, rfl, of_decide_eq_true h.1.2, r1⟩) (.inl (.inr ⟨_, e, rfl⟩)) (r2 H ow)⟩
      · cases h
    | _ => simp [kcB] at h
  | .lst _, _, h => by simp [kcB] at h
  | .dic _, _, h => by simp [kcB] at h
  | .ref _, _, h => by simp [kcB] at h
  | .exc _ _, _, h => by simp [kcB] at h
  | .cls _, _, h => by simp [kcB] at h
  | .ty _, _, h => by simp [kcB] at h
theorem kcL_ok {K : PySem.W.Frag} {M : Lm} : ∀ (l : List D) (us : List Value), kcL K l us = true → ∃ vs, Vals vs us ∧ ∀ (H : Hp) (ow : Addr → Prop), EncL K M H ow l vs
  | [], [], _ => ⟨[], .nil, fun _ _ => .nil⟩
  | d :: l, u :: us, h => by
    unfold kcL at h
    rw [Bool.and_eq_true] at h
    obtain ⟨v, h1, h2⟩ := kcB_ok (M := M) d u h.1
    obtain ⟨vs, h3, h4⟩ := kcL_ok (M := M) l us h.2
    exact ⟨v :: vs, .cons h1 h3, fun H ow => .cons (h2 H ow) (h4 H ow)⟩
  | [], _ :: _, h => by simp [kcL] at h
  | _ :: _, [], h => by simp [kcL] at h
end
def kcAt (K : PySem.W.Frag) (x : Str) (d : D) : Bool := match PySem.W.nsIn K mainGlobals x with
  | some (some u) => kcB K d u
  | _ => false
theorem s_glob {x : Str} {d : D} {u : Value} {pos : Pos} (hm : X.mg x = some u) (hk : kcB X.K d u = true) (hg : Gl X x := by rfl) (hd : (x == ("__debug__" : Str)) = false := by decide) : SE X M W (.Name x pos) (conF d) := by
  obtain ⟨v, r, e⟩ := kcB_ok (M := M) d u hk
  refine pe_imp (pe_glob hg hm r hd) fun σ H Q h => ?_
  obtain ⟨env, z, rfl, k, _, h⟩ := h
  exact h z v rfl (Ext.refl z) k (.of (e _ _))
theorem kcAt_ok {x : Str} {d : D} (h : kcAt K x d = true) : ∃ u, PySem.W.nsIn K mainGlobals x = some (some u) ∧ kcB K d u = true := by
  unfold kcAt at h
  split at h
  · rename_i e
    exact ⟨_, e, h⟩
  · cases h
def parF (is : List Nat) (g : Env → Sto → Res (List D)) : Env → Sto → SR := fun env S => (g env S).thn env fun as S1 => if as.length = is.length then .nx (putAll is as env) S1 else .bad
where putAll : List Nat → List D → Env → Env
  | i :: is, a :: as, env => putAll is as (env.set i (some a))
  | _, _, env => env
theorem ss_par (i j : Nat) {x y : Str} {a b : Expr} {g : Env → Sto → Res (List D)} {px py pt pos : Pos} {kt k2 pt2} (hc : X.calm = true) (hN : X.N.Nodup) (ha : SA X M W [a, b] g) (hi : X.N[i]? = some x := by rfl) (hj : X.N[j]? = some y := by rfl) (hij : i ≠ j := by decide)
    (hx : X.env.scope.names.lookup x = some .local := by rfl) (hy : X.env.scope.names.lookup y = some .local := by rfl)
    (hw : swappedStores [.Tuple [.Name x px, .Name y py] kt pt] (.Tuple [a, b] k2 pt2) X.env = pure (some [x, y]) := by rfl)
    (hs : swapsWithSole [.Tuple [.Name x px, .Name y py] kt pt] (.Tuple [a, b] k2 pt2) pos.line X.env = pure false := by rfl) :
    SS X M W (.Assign [.Tuple [.Name x px, .Name y py] kt pt] (.Tuple [a, b] k2 pt2) pos) (parF [i, j] g) := by
  refine ps_imp (ps_par hc hN hi hj hij hx hy ha hw hs) fun D σ H h => ?_
  obtain ⟨env, z, rfl, k, v, h⟩ := h
  refine ⟨env, z, rfl, k, v, (Out.thn v h).imp fun b H1 q => ?_⟩
  obtain ⟨as, z1, rfl, _, x, k1, q, v1, h1⟩ := q
  match as, q, h1 with
  | [a1, a2], q, h1 =>
    obtain ⟨w1, w2, rfl, e1, e2⟩ := encAs2 q
    exact ⟨w1, w2, rfl, h1 z1 _ rfl (Ext.refl z1) k1 ((v1.set i e1).set j e2)⟩
  | [], q, h1 => exact h1.elim
  | [_], q, h1 => exact h1.elim
  | x1 :: x2 :: x3 :: xr, q, h1 =>
    have h2 : OutS X.K M W D z1 (if (x1 :: x2 :: x3 :: xr).length = 2 then SR.nx (parF.putAll [i, j] (x1 :: x2 :: x3 :: xr) env) z1.S else .bad) := h1
    rw [if_neg (by simp)] at h2
    exact h2.elim
def unpF (t : Tgt) (f : Env → Sto → Res D) : Env → Sto → SR := fun env S => (f env S).thn env fun d S1 => match t.put d env with
  | some env1 => .nx env1 S1
  | none => .bad
theorem ss_unp {tg e : Expr} {pos : Pos} {t : Tgt} {f : Env → Sto → Res D} (he : SE X M W e f) (hg : SG X M tg t) (hs : swapsWithSole [tg] e pos.line X.env = pure false := by rfl) (hw : swappedStores [tg] e X.env = pure none := by rfl)
    (h1 : (assignEach [tg] X.env).map (·.2) = [assign tg X.env] := by rfl) : SS X M W (.Assign [tg] e pos) (unpF t f) := by
  obtain ⟨g, hg, og⟩ := hg.ex
  refine ps_imp (ps_asg he hg hs hw h1) fun D σ H h => ?_
  obtain ⟨env, z, rfl, k, v, h⟩ := h
  refine ⟨env, z, rfl, k, v, (Out.thn v h).imp fun b H1 q => ?_⟩
  obtain ⟨d, z1, rfl, _, x, k1, q, v1, h1⟩ := q
  cases r : t.put d env with
  | none =>
    rw [r] at h1
    exact h1.elim
  | some env1 =>
    rw [r] at h1
    exact og z1 env env1 σ d b _ k1 v1 q r fun σ1 v2 => h1 z1 σ1 rfl (Ext.refl z1) k1 v2
def augF (i : Nat) (op : Int → Int → Int) (f : Env → Sto → Res D) : Env → Sto → SR := fun env S => match env[i]? with
  | some (some (.int a)) => (f env S).thn env fun d S1 => match d with
    | .int b => .nx (env.set i (some (.int (op a b)))) S1
    | _ => .bad
  | _ => .bad
end
end Sm
namespace Sm
open PySem PySem.Spec PyProof.Rows L2
section
variable {P : Program} {w : World} {K : PySem.W.Frag} {M : Lm} {mg mb : Str → Option Value} {k : Nat} {fl ad : Addr} {fd : FuncData} {x : Str} {s1 : Shared} {us : List Value} {ns : List Int} {m : Fn} {S' : Sto}
theorem ints_enc {H : Hp} {ow : Addr → Prop} : ∀ ns : List Int, EncL K M H ow (ns.map D.int) (ns.map V.int)
  | [] => .nil
  | n :: ns => .cons (.int n) (ints_enc ns)
def Gone (s1 : Shared) (r : Result) (s2 : Shared) : Prop := r = .ok (.ret (.bool true)) ∧ OldK s1.heap s2.heap ∧ s2.os = s1.os ∧ AllBare s2.gens
abbrev Mk := List (Addr × Addr × Str)
structure Mk0 (K : PySem.W.Frag) (cs : Mk) (hp : Heap) : Prop where
  at_ : ∀ p ∈ cs, hp.get? p.2.1 = some { cls := .none, data := .fields #[] }
  off : ∀ p ∈ cs, K.lookup p.2.1 = none
  hd : ∀ p ∈ cs, PySem.W.CodeHd hp p.1 p.2.1
def MkB (base : Heap) (mg : Str → Option Value) (cs : Mk) : Prop := ∀ p ∈ cs, LamX.TabB base mg p.1 p.2.1
theorem end_core {H : Hp} {cs : Mk} (kin : K.In s1.heap) (gl : s1.heap.Ns mainGlobals mg) (bl : s1.heap.Ns builtinsNs mb) (boot : ∀ y : Str, y ≠ "__name__" → mb y = bootBuiltins y) (nl : s1.heap.NoLimit) (nd : s1.heap.NoDigits) (gn : s1.gens = #[]) (T0 : Mk0 K cs s1.heap)
    (main : ∃ (m : Addr) (o : Obj), mg "__builtins__" = some (.ref m) ∧ m ≠ builtinsNs ∧ s1.heap.get? m = some o ∧ o.cls = .type "module" ∧ o.dict = some builtinsNs ∧ o.data = .plain) (hMt : M.tabs = cs.map (·.2)) (hMc : M.caps = []) (hMd : M.codes = [])
    (at1 : s1.heap.get? ad = some { cls := .type "list", data := .seq us.toArray }) (room : Room k callerA) (G : ∀ base : Heap, K.In base → base.Ns mainGlobals mg → MkB base mg cs → base.NoDigits → FnS P w K M mg base k fl fd [x] m)
    (bi : ∀ (s : Shared) (u : Value), BindsTo s fd ⟨[u], []⟩ [(x, u)]) (hm : m [.lst (ns.map D.int)] [] = .ok (.bl true) S') (tb : ∀ p ∈ cs, H p.2.1 = some (.tbl #[])) (only : ∀ b, H b = none ∨ (∃ p ∈ cs, p.2.1 = b) ∨ ∃ o xs, H b = some (.frz o (.lst xs)))
    (rl : RL K H (fun _ => False) ad (ns.map V.int)) (hok : HOk P w H s1.heap) (one : ∀ b, H b ≠ none → b = ad ∨ ∃ p ∈ cs, p.2.1 = b) (off : H ad ≠ none → K.lookup ad = none) :
    codeAny (model P w) callerA (.call (.ref fl) ⟨[.ref ad], []⟩) (Gone s1) s1 := by
  have low : ∀ {b : Addr} {o : Obj}, s1.heap.get? b = some o → H b = none → (hidT s1.heap H).get? b = some o := fun e n => hidT_get e n
  have pure0 : ∀ {b : Addr} {o : Obj}, s1.heap.get? b = some o → (∀ vs n, o.data ≠ .seq vs n) → o.data ≠ .fields #[] → H b = none := by
    intro b o e n1 n2
    cases q : H b with
    | none => rfl
    | some u =>
      rcases one b (fun z => by rw [q] at z; cases z) with eb | ⟨p, hp, eb⟩
      · rw [eb, at1] at e
        cases e
        exact absurd rfl (n1 _ _)
      · rw [← eb, T0.at_ p hp] at e
        cases e
        exact absurd rfl n2
  have dic : ∀ {b : Addr} {o : Obj} {es : Array DictEntry} {ep : Nat}, s1.heap.get? b = some o → o.data = .dict es ep → H b = none := fun e d =>
    pure0 e (fun vs n z => by
      rw [d] at z
      cases z) fun z => by
      rw [d] at z
      cases z
  have nsl : ∀ {b : Addr} {g : Str → Option Value}, s1.heap.Ns b g → (hidT s1.heap H).Ns b g := by
    rintro b g ⟨o, es, ep, e, d, r⟩
    exact ⟨o, es, ep, low e (dic e d), d, r⟩
  have kl : K.In (hidT s1.heap H) := by
    intro b o e
    refine low (kin b o e) ?_
    cases q : H b with
    | none => rfl
    | some u =>
      have nn : H b ≠ none := fun z => by rw [q] at z; cases z
      rcases one b nn with eb | ⟨p, hp, eb⟩
      · rw [eb] at nn e
        rw [off nn] at e
        cases e
      · rw [← eb, T0.off p hp] at e
        cases e
  obtain ⟨mc, nl1, nl2⟩ := nl
  obtain ⟨md2, nd1, nd2⟩ := nd
  have md : Mod K mg (hidT s1.heap H) := ⟨kl, nsl gl, ⟨mb, nsl bl, boot⟩, ⟨mc, nsl nl1, nl2⟩⟩
  have mk : MkB (hidT s1.heap H) mg cs := fun p hp => by
    have tp := T0.at_ p hp
    refine ⟨?_, ?_, fun z => ?_⟩
    · obtain ⟨o, fs, a3, a4, a5, a6, a7, a8, a9, e, b1, b2, b3, rest⟩ := T0.hd p hp
      refine ⟨o, fs, a3, a4, a5, a6, a7, a8, a9, low e (pure0 e (fun vs n z => ?_) fun z => ?_), b1, b2, b3, rest⟩
      · rw [b2] at z
        cases z
      · rw [b2] at z
        cases z
        simp at b3
    · obtain ⟨bm, ob, c1, c2, c3, c4, c5, c6⟩ := main
      have n1 : bm ≠ mainGlobals := fun q => by
        obtain ⟨o, es, ep, e, d, _⟩ := gl
        rw [q, e] at c3
        cases c3
        rw [d] at c6
        cases c6
      have n2 : bm ≠ p.2.1 := fun q => by
        rw [q, tp] at c3
        cases c3
        cases c6
      exact ⟨bm, ob, c1, c2, n1, n2, low c3 (pure0 c3 (fun vs n z => by
        rw [c6] at z
        cases z) fun z => by
        rw [c6] at z
        cases z), c4, c5, c6⟩
    · obtain ⟨o, es, ep, e, d, _⟩ := gl
      rw [z, tp] at e
      cases e
      cases d
  have e0 : Env0 P w K mg (hidT s1.heap H) callerA [] s1 H := ⟨rfl, md, fun _ _ e => of_hidT e, Nat.le_of_eq (hidT_size _ _), trivial, fun b hb => absurd (show b ∈ ([] : List Addr) from hb) (List.not_mem_nil), hok, .of_eq gn⟩
  have sp : spF K M 1 m [.ref ad] H (fun v _ => v = .bl true) fun _ _ _ => False := by
    let z : Sg := ⟨H, [], [], []⟩
    have nz : ∀ a, ¬ z.ow a := fun a q => by
      rcases q with ⟨n, o, h, _⟩ | h
      · cases h
      · cases h
    have ax : Aux K M z := by
      refine ⟨fun p hp => ?_, fun p hp => ?_, fun p hp => ?_⟩
      · rw [hMt] at hp
        obtain ⟨t, ht, et⟩ := List.mem_map.mp hp
        rw [← et]
        exact LamX.TabS.nil (tb t ht)
      · rw [hMc] at hp
        cases hp
      · rw [hMd] at hp
        cases hp
    refine ⟨[.lst (ns.map D.int)], z, rfl, ⟨rfl, List.nodup_nil, fun g hg => (nomatch hg), fun g hg => (nomatch hg), fun n o a h => (nomatch h), ax⟩, rfl, .cons (.of (.lst (rl.imp (fun h => ⟨h.1, nz ad⟩) id) (ints_enc ns))) .nil, ?_⟩
    show Out K M (EncA K M) _ [] z _ (m [.lst (ns.map D.int)] [])
    rw [hm]
    exact fun z' b _ _ _ q => encA_bl q
  refine codeAny_mono ((G _ kl (nsl gl) mk ⟨md2, nsl nd1, nd2⟩).run callerA [] s1 H _ [.ref ad] [.ref ad] _ _ room rfl e0 (bi s1 (.ref ad)) (.cons rfl .nil) sp) fun r s2 h => ?_
  cases r with
  | error e =>
    obtain ⟨_, _, _, _, _, _, _, _, _, _, _, _, q⟩ := h
    exact q.elim
  | ok fw =>
    cases fw with
    | ret u =>
      obtain ⟨v, H', os, bare, un, hok', r', q⟩ := h
      have q' : v = .bl true := q
      rw [q'] at r'
      have eu : u = Value.bool true := r'
      rw [eu]
      have rest : ∀ b o, (¬ ∃ p ∈ cs, p.2.1 = b) → s1.heap.get? b = some o → s2.heap.get? b = some o := by
        intro b o nb e
        rcases only b with q | q | ⟨ob, xs, q⟩
        · exact un.keep b o e q (by simp [frs]) (by simp)
        · exact absurd q nb
        · have w1 := (hok b _ q).1
          have w2 := (hok' b _ (un.frzs b ob _ q)).1
          rw [e] at w1
          rw [Option.some.inj w1]
          exact w2
      have more : ∀ p ∈ cs, ∃ xs : Array Value, s2.heap.get? p.2.1 = some { cls := .none, data := .fields xs } := by
        intro p hp
        obtain ⟨xs, z⟩ := un.tbls p.2.1 #[] (tb p hp)
        exact ⟨_, hok' p.2.1 _ z⟩
      refine ⟨rfl, ⟨fun b o e => ?_, fun b o e => ?_⟩, os, bare⟩
      · by_cases hb : ∃ p ∈ cs, p.2.1 = b
        · obtain ⟨p, hp, eb⟩ := hb
          obtain ⟨xs, hx⟩ := more p hp
          rw [← eb] at e ⊢
          have tp := T0.at_ p hp
          rw [tp] at e
          cases e
          exact .inr (.inl ⟨((T0.hd p hp).tab tp).isCodeTable, rfl, #[], xs, rfl, by
            rw [Array.empty_append]
            exact hx⟩)
        · exact .inl (rest b o hb e)
      · by_cases hb : ∃ p ∈ cs, p.2.1 = b
        · obtain ⟨p, hp, eb⟩ := hb
          obtain ⟨xs, hx⟩ := more p hp
          rw [← eb]
          exact ⟨_, hx⟩
        · exact ⟨o, rest b o hb e⟩
    | _ => exact False.elim h
theorem end_call {cs : Mk} (kin : K.In s1.heap) (gl : s1.heap.Ns mainGlobals mg) (bl : s1.heap.Ns builtinsNs mb) (boot : ∀ y : Str, y ≠ "__name__" → mb y = bootBuiltins y) (nl : s1.heap.NoLimit) (nd : s1.heap.NoDigits) (gn : s1.gens = #[]) (T0 : Mk0 K cs s1.heap)
    (main : ∃ (m : Addr) (o : Obj), mg "__builtins__" = some (.ref m) ∧ m ≠ builtinsNs ∧ s1.heap.get? m = some o ∧ o.cls = .type "module" ∧ o.dict = some builtinsNs ∧ o.data = .plain) (hMt : M.tabs = cs.map (·.2)) (hMc : M.caps = []) (hMd : M.codes = [])
    (at1 : s1.heap.get? ad = some { cls := .type "list", data := .seq us.toArray }) (hi : IntsAre us ns) (hl : ns.length ≤ sizeLine) (room : Room k callerA) (G : ∀ base : Heap, K.In base → base.Ns mainGlobals mg → MkB base mg cs → base.NoDigits → FnS P w K M mg base k fl fd [x] m)
    (bi : ∀ (s : Shared) (u : Value), BindsTo s fd ⟨[u], []⟩ [(x, u)]) (hm : m [.lst (ns.map D.int)] [] = .ok (.bl true) S') :
    codeAny (model P w) callerA (.call (.ref fl) ⟨[.ref ad], []⟩) (Gone s1) s1 := by
  have rv := vals_ints hi
  have ll := hi.length
  have na : ¬ ∃ p ∈ cs, p.2.1 = ad := fun ⟨p, hp, e⟩ => by
    have q := T0.at_ p hp
    rw [e, at1] at q
    cases (show Data.seq us.toArray _ = Data.fields #[] from congrArg Obj.data (Option.some.inj q))
  classical
  cases q : K.lookup ad with
  | some o =>
    have e := kin ad o q
    rw [at1] at e
    have e := Option.some.inj e
    subst e
    let H : Hp := fun b => if ∃ p ∈ cs, p.2.1 = b then some (.tbl #[]) else none
    have hT : ∀ b, (∃ p ∈ cs, p.2.1 = b) → H b = some (.tbl #[]) := fun b h => if_pos h
    have hN : ∀ b, (¬ ∃ p ∈ cs, p.2.1 = b) → H b = none := fun b h => if_neg h
    refine end_core (H := H) kin gl bl boot nl nd gn T0 main hMt hMc hMd at1 room G bi hm (fun p hp => hT _ ⟨p, hp, rfl⟩) (fun b => ?_) (.inr ⟨us.toArray, _, q, by
      rw [List.size_toArray, ll]
      exact hl, rv⟩) (fun b u z => ?_) (fun b z => ?_) fun z => absurd (hN _ na) z
    · by_cases hb : ∃ p ∈ cs, p.2.1 = b
      · exact .inr (.inl hb)
      · exact .inl (hN b hb)
    · by_cases hb : ∃ p ∈ cs, p.2.1 = b
      · rw [hT b hb] at z
        cases z
        obtain ⟨p, hp, eb⟩ := hb
        rw [← eb]
        exact T0.at_ p hp
      · rw [hN b hb] at z
        cases z
    · by_cases hb : ∃ p ∈ cs, p.2.1 = b
      · exact .inr hb
      · exact absurd (hN b hb) z
  | none =>
    let H : Hp := fun b => if b = ad then some (.frz { cls := .type "list", data := .seq us.toArray } (.lst (ns.map V.int))) else if ∃ p ∈ cs, p.2.1 = b then some (.tbl #[]) else none
    have h1 : H ad = some (.frz { cls := .type "list", data := .seq us.toArray } (.lst (ns.map V.int))) := if_pos rfl
    have hT : ∀ b, (∃ p ∈ cs, p.2.1 = b) → H b = some (.tbl #[]) := fun b h => (if_neg fun e => na (by rw [← e]; exact h)).trans (if_pos h)
    have hN : ∀ b, b ≠ ad → (¬ ∃ p ∈ cs, p.2.1 = b) → H b = none := fun b n h => (if_neg n).trans (if_neg h)
    refine end_core (H := H) kin gl bl boot nl nd gn T0 main hMt hMc hMd at1 room G bi hm (fun p hp => hT _ ⟨p, hp, rfl⟩) (fun b => ?_) (.inl ⟨.inr ⟨_, h1⟩, fun z => z⟩) (fun b u z => ?_) (fun b z => ?_) fun _ => q
    · by_cases c : b = ad
      · rw [c]
        exact .inr (.inr ⟨_, _, h1⟩)
      · by_cases hb : ∃ p ∈ cs, p.2.1 = b
        · exact .inr (.inl hb)
        · exact .inl (hN b c hb)
    · by_cases c : b = ad
      · rw [c] at z ⊢
        rw [h1] at z
        have z := Option.some.inj z
        subst z
        exact ⟨at1, by
          rw [List.length_map]
          exact hl, us, _, rv, at1⟩
      · by_cases hb : ∃ p ∈ cs, p.2.1 = b
        · rw [hT b hb] at z
          cases z
          obtain ⟨p, hp, eb⟩ := hb
          rw [← eb]
          exact T0.at_ p hp
        · rw [hN b c hb] at z
          cases z
    · by_cases c : b = ad
      · exact .inl c
      · by_cases hb : ∃ p ∈ cs, p.2.1 = b
        · exact .inr hb
        · exact absurd (hN b c hb) z
end
def LawF (l : PySem.W.OpenLaw) (w : World) (K : PySem.W.Frag) (M : Lm) (mg : Str → Option Value) (k : Nat) (fl : Addr) (x : Str) (m : Fn) (h : Heap) : Prop :=
  ∃ (fd : FuncData) (cs : Mk), Mk0 K cs h ∧ M.tabs = cs.map (·.2) ∧ M.caps = [] ∧ M.codes = [] ∧ (∀ (s : Shared) (u : Value), BindsTo s fd ⟨[u], []⟩ [(x, u)]) ∧
    ∀ base : Heap, K.In base → base.Ns mainGlobals mg → MkB base mg cs → base.NoDigits → FnS l.prog w K M mg base k fl fd [x] m
theorem end_ofL {l : PySem.W.OpenLaw} {n k : Nat} {q : Program} {loose : List Str} {XP : (Str → Option Value) → Heap → Prop} {YP : World → Heap → Prop} {d : DefRec} {K : Params → PySem.W.Frag} {m : Fn} {x : Str}
    (hn : l.most = some n) (hn2 : n ≤ sizeLine) (hdf : d.params.defaults = []) (hr : Room k callerA) (hY : ∀ (w : World) (h : Heap), YP w h → (K w.params).In h)
    (F : ∀ (w : World) (mg : Str → Option Value) (fl : Addr) (h : Heap), (∃ lo mean mb, Top q lo mean mg mb h) → (K w.params).In h → h.Ns mainGlobals mg → mg d.name = some (.ref fl) → ∃ M : Lm, LawF l w (K w.params) M mg k fl x m h)
    (hm : ∀ ns : List Int, ns.length ≤ n → (∀ z ∈ ns, Builtin.Int.intBits z ≤ 1048576) → ∃ S', m [.lst (ns.map D.int)] [] = .ok (.bl true) S') : PySem.W.WalkO q loose XP YP l.row.toRowW d [] (fun f vs => PySem.call f vs) := by
  refine Att.attach_callB hn hdf fun w s0 s1 mg mb fl o pm cd doc ad us ns G Y _ _ _ hmg hobj hints hlen hbits hg => ?_
  obtain ⟨M, fd, cs, T0, e1, e2, e3, hb, hF⟩ := F w mg fl _ ⟨_, _, _, G.T⟩ (hY w _ Y) G.T.g hmg
  obtain ⟨S', hm⟩ := hm ns hlen hbits
  exact end_call (hY w _ Y) G.T.g G.T.b G.T.builtins G.T.nolimit G.T.nodigits hg T0 G.T.bmain e1 e2 e3 hobj hints (Nat.le_trans hlen hn2) hr hF hb hm
end Sm
namespace Sm
open PySem PySem.Spec PyProof.Rows L2
structure Def (P : Program) (w : World) (K : PySem.W.Frag) (M : Lm) (mg : Str → Option Value) (base : Heap) (x : Str) (k : Nat) (ps : List Str) (m : Fn) : Prop where
  ex : ∃ (f : Addr) (fd : FuncData), FnS P w K M mg base k f fd ps m ∧ mg x = some (.ref f) ∧ PySem.W.keepIn K (.ref f) = true ∧ Binds K fd ps []
structure Kn (K : PySem.W.Frag) (mg : Str → Option Value) (x : Str) (st : Stmt) (ps : List Str) (f : Addr) (fd : FuncData) : Prop where
  at_ : mg x = some (.ref f)
  kp : PySem.W.keepIn K (.ref f) = true
  bi : Binds K fd ps []
  fn : Fun K x x st f fd
theorem Kn.def {P : Program} {w : World} {K : PySem.W.Frag} {M : Lm} {mg : Str → Option Value} {base : Heap} {x : Str} {st : Stmt} {ps : List Str} {f : Addr} {fd : FuncData} {k : Nat} {m : Fn} (N : Kn K mg x st ps f fd) (F : FnS P w K M mg base k f fd ps m) : Def P w K M mg base x k ps m := ⟨f, fd, F, N.at_, N.kp, N.bi⟩
structure Con (K : PySem.W.Frag) (mg : Str → Option Value) (x : Str) (d : D) : Prop where
  ex : ∃ u, mg x = some u ∧ kcB K d u = true
theorem Con.of {K : PySem.W.Frag} {mg : Str → Option Value} {h : Heap} {x : Str} {d : D} (X : K.In h) (G : h.Ns mainGlobals mg) (e : kcAt K x d = true) : Con K mg x d := by
  obtain ⟨u, e1, e2⟩ := kcAt_ok e
  exact ⟨u, PySem.W.mg_of X G e1, e2⟩
theorem takes_W0 {X : Cx} : Takes X W0 := fun u s' ⟨a, B, sI, pins, σ, H, cls, d, e, I, nb, up, sky, na, os, ag, w⟩ => w.elim
section
variable {X : Cx} {M : Lm} {W : WX}
theorem s_callD {j k : Nat} {ps : List Str} {m : Fn} {x : Str} {p pos : Pos} {e : Expr} {es : List Expr} {g : Env → Sto → Res (List D)} (N : Def X.prog X.w X.K M X.mg X.base x j ps m) (hr : Room k X.A) (gd : X.A.guards = some []) (tk : Takes X W) (ha : SA X M W (e :: es) g) (hj : j ≤ k := by decide) (hg : Gl X x := by rfl)
    (hdb : (x == ("__debug__" : Str)) = false := by decide) (he : starEach (e :: es) X.env = (false, eval e X.env) :: starEach es X.env := by rfl) (hpl : (backTo pos (starEach es X.env)).any (·.1) = false := by rfl) : SE X M W (.Call (.Name x p) (e :: es) [] pos) (callF m g) := by
  obtain ⟨f, fd, F, h1, h2, h3⟩ := N.ex
  exact s_call (F.mono hj) hr gd h1 h2 h3 tk ha hg hdb he hpl
theorem s_callD0 {j k : Nat} {ps : List Str} {m : Fn} {x : Str} {p pos : Pos} (N : Def X.prog X.w X.K M X.mg X.base x j ps m) (hr : Room k X.A) (gd : X.A.guards = some []) (tk : Takes X W) (hj : j ≤ k := by decide) (hg : Gl X x := by rfl) (hdb : (x == ("__debug__" : Str)) = false := by decide) : SE X M W (.Call (.Name x p) [] [] pos) (callF m nilA) := by
  obtain ⟨f, fd, F, h1, h2, h3⟩ := N.ex
  exact s_call0 (F.mono hj) hr gd h1 h2 h3 tk hg hdb
theorem s_con {x : Str} {d : D} {pos : Pos} (C : Con X.K X.mg x d) (hg : Gl X x := by rfl) (hd : (x == ("__debug__" : Str)) = false := by decide) : SE X M W (.Name x pos) (conF d) := by
  obtain ⟨u, h1, h2⟩ := C.ex
  exact s_glob h1 h2 hg hd
theorem s_bty {x : Str} {pos : Pos} (t : Ty) (hm : X.mg x = none) (hv : bootBuiltins x = some (.type t.name) := by rfl) (hg : Gl X x := by rfl) (hn : x ≠ "__name__" := by decide) (hd : (x == ("__debug__" : Str)) = false := by decide) : SE X M W (.Name x pos) (conF (.ty t)) :=
  pe_imp (pe_bltn hg hm hv (v := .ty t.name) rfl hn hd) fun _ _ _ h => tc_of (fun _ _ => .ty t) h
end
section
variable {X : Cx} {M : Lm} {W : WX} {K : PySem.W.Frag} {z : Sg}
theorem out_own {σ : St} {Q : VK} {l : List D} {vs : List V} (k : SOk K M z) (e : EncL K M z.H z.ow l vs) (h : Out K M (EncA K M) W σ z Q (.ok (.ref z.S.length) (z.S ++ [.lst false l]))) : ∀ p, z.H p = none → Q (.ref p) (upd z.H p (.lst vs)) := fun p np =>
  h (z.push p (.lst vs) (.lst false l)) (.ref p) rfl (ext_push np k) (sok_push np k ⟨vs, upd_same, e.mv (ext_push np k).mv⟩) (encA_push k)
end
end Sm
namespace Sm
open PySem PySem.Spec PyProof.Rows L2
theorem Kn.mk' {K : PySem.W.Frag} {mg : Str → Option Value} {h : Heap} {x : Str} {st : Stmt} {ps : List Str} {f : Addr} {oc kV doc pm cdv ct : Value} {od an : Option Addr} {sl : Array (Option Value)} (X : K.In h) (G : h.Ns mainGlobals mg) (a : PySem.W.nsIn K mainGlobals x = some (some (.ref f)))
    (l : K.lookup f = some ⟨oc, od, .func (PySem.W.fnOf x x (defArgs st) (defBody st) (defScope st) .none kV doc pm an cdv ct), sl⟩) (c : PySem.W.codeIn K cdv x = true) (k : PySem.W.keepIn K (.ref f) = true)
    (b : ∀ (kV doc pm : Value) (an : Option Addr) (cdv ct : Value) (us : List Value), us.length = ps.length → bindArgs (PySem.W.fnOf x x (defArgs st) (defBody st) (defScope st) .none kV doc pm an cdv ct) ⟨us, []⟩ = pure (ps.zip us)) :
    Kn K mg x st ps f (PySem.W.fnOf x x (defArgs st) (defBody st) (defScope st) .none kV doc pm an cdv ct) := by
  have F := fun_mk (st := st) l c k
  exact ⟨PySem.W.mg_of X G a, k, F.binds b, F⟩
theorem kc_tup {K : PySem.W.Frag} {l : List D} {a : Addr} {its : Array Value} {n : Nat} {sl : Array (Option Value)} (h : K.lookup a = some ⟨.type "tuple", none, .seq its n, sl⟩) (hs : its.size ≤ sizeLine) (hl : kcL K l its.toList = true) : kcB K (.tup l) (.ref a) = true := by
  unfold kcB
  rw [h]
  dsimp only
  rw [hl, decide_eq_true hs]
  rfl
theorem kc_cons {K : PySem.W.Frag} {d : D} {l : List D} {v : Value} {r : List Value} (h : kcB K d v = true) (h2 : kcL K l r = true) : kcL K (d :: l) (v :: r) = true := by
  unfold kcL
  rw [h, h2]
  rfl
theorem kc_nil {K : PySem.W.Frag} : kcL K [] [] = true := rfl
theorem Con.of2 {K : PySem.W.Frag} {mg : Str → Option Value} {h : Heap} {x : Str} {d : D} {u : Value} (X : K.In h) (G : h.Ns mainGlobals mg) (e : PySem.W.nsIn K mainGlobals x = some (some u)) (c : kcB K d u = true) : Con K mg x d := ⟨u, PySem.W.mg_of X G e, c⟩
end Sm
namespace Sm
open PySem PySem.Spec PyProof.Rows L2
def OKR {α : Type} (r : Res α) (P : α → Sto → Prop) (E : D → Sto → Prop) : Prop := match r with
  | .ok a S => P a S
  | .ex e S => E e S
  | .bad => False
def OKS (r : SR) (N B C : Env → Sto → Prop) (T : D → Sto → Prop) (X : D → Env → Sto → Prop) : Prop := match r with
  | .nx e S => N e S
  | .bk e S => B e S
  | .ct e S => C e S
  | .rt d S => T d S
  | .ex d e S => X d e S
  | .bad => False
def Bl (d : D) (Q : Bool → Prop) : Prop := ∃ b, d = .bl b ∧ Q b
def Br (b : Bool) (A B : Prop) : Prop := (b = true → A) ∧ (b = false → B)
section
variable {α β : Type} {P : α → Sto → Prop} {E : D → Sto → Prop} {S : Sto} {env : Env} {N B C : Env → Sto → Prop} {T : D → Sto → Prop} {X : D → Env → Sto → Prop} {R : D → Sto → Prop} {f g h : Env → Sto → Res D}
theorem OKR.mono {P' : α → Sto → Prop} {E' : D → Sto → Prop} {r : Res α} (h : OKR r P E) (hp : ∀ a S, P a S → P' a S) (he : ∀ e S, E e S → E' e S) : OKR r P' E' := by
  cases r with
  | ok a S => exact hp a S h
  | ex e S => exact he e S h
  | bad => exact h
theorem OKS.mono {N' B' C' : Env → Sto → Prop} {T' : D → Sto → Prop} {X' : D → Env → Sto → Prop} {r : SR} (h : OKS r N B C T X) (h1 : ∀ e S, N e S → N' e S) (h2 : ∀ e S, B e S → B' e S) (h3 : ∀ e S, C e S → C' e S) (h4 : ∀ e S, T e S → T' e S) (h5 : ∀ d e S, X d e S → X' d e S) : OKS r N' B' C' T' X' := by
  cases r with
  | nx e S => exact h1 e S h
  | bk e S => exact h2 e S h
  | ct e S => exact h3 e S h
  | rt e S => exact h4 e S h
  | ex d e S => exact h5 d e S h
  | bad => exact h
theorem OKR.of_eq {r : Res α} {v : α} (e : r = .ok v S) (h : P v S) : OKR r P E := by
  rw [e]
  exact h
theorem OKR.ok {r : Res α} (h : OKR r P fun _ _ => False) : ∃ v S, r = .ok v S ∧ P v S := by
  cases r with
  | ok a S => exact ⟨a, S, rfl, h⟩
  | ex e S => exact h.elim
  | bad => exact h.elim
theorem o_bind {r : Res α} {k : α → Sto → Res β} {P : β → Sto → Prop} (h : OKR r (fun a S1 => OKR (k a S1) P E) E) : OKR (r.bind k) P E := by
  cases r with
  | ok a S => exact h
  | ex e S => exact h
  | bad => exact h
theorem o_thn {r : Res α} {k : α → Sto → SR} (h : OKR r (fun a S1 => OKS (k a S1) N B C T X) fun e S1 => X e env S1) : OKS (r.thn env k) N B C T X := by
  cases r with
  | ok a S => exact h
  | ex e S => exact h
  | bad => exact h
theorem o_ok {v : α} (h : P v S) : OKR (.ok v S) P E := h
theorem o_var {i : Nat} {d : D} (e : env[i]? = some (some d)) (h : R d S) : OKR (varF i env S) R E := by
  unfold varF
  rw [e]
  exact h
theorem o_con {d : D} (h : R d S) : OKR (conF d env S) R E := h
theorem o_bin {o : D → D → Sto → Res D} (h : OKR (f env S) (fun x S1 => OKR (g env S1) (fun y S2 => OKR (o x y S2) R E) E) E) : OKR (binF o f g env S) R E := o_bind (h.mono (fun _ _ q => o_bind q) fun _ _ q => q)
theorem o_call {m : Fn} {k : Env → Sto → Res (List D)} (h : OKR (k env S) (fun as S1 => OKR (m as S1) R E) E) : OKR (callF m k env S) R E := o_bind h
theorem o_nil {R : List D → Sto → Prop} (h : R [] S) : OKR (nilA env S) R E := h
theorem o_cons {k : Env → Sto → Res (List D)} {R : List D → Sto → Prop} (h : OKR (f env S) (fun d S1 => OKR (k env S1) (fun l S2 => R (d :: l) S2) E) E) : OKR (consA f k env S) R E := o_bind (h.mono (fun _ _ q => o_bind (q.mono (fun _ _ q => q) fun _ _ q => q)) fun _ _ q => q)
theorem o_neg (h : OKR (f env S) (fun d S1 => ∃ i, d = .int i ∧ R (.int (-i)) S1) E) : OKR (negF f env S) R E := o_bind (h.mono (fun _ _ q => by
  obtain ⟨i, rfl, q⟩ := q
  exact q) fun _ _ q => q)
theorem o_not (h : OKR (f env S) (fun d S1 => Bl d fun b => R (.bl (!b)) S1) E) : OKR (notV f env S) R E := o_bind (h.mono (fun _ _ q => by
  obtain ⟨i, rfl, q⟩ := q
  exact q) fun _ _ q => q)
theorem o_and (h : OKR (f env S) (fun d S1 => Bl d fun b => Br b (OKR (g env S1) R E) (R (.bl false) S1)) E) : OKR (andV f g env S) R E := o_bind (h.mono (fun _ _ q => by
  obtain ⟨i, rfl, q⟩ := q
  cases i with
  | true => exact q.1 rfl
  | false => exact q.2 rfl) fun _ _ q => q)
theorem o_or (h : OKR (f env S) (fun d S1 => Bl d fun b => Br b (R (.bl true) S1) (OKR (g env S1) R E)) E) : OKR (orV f g env S) R E := o_bind (h.mono (fun _ _ q => by
  obtain ⟨i, rfl, q⟩ := q
  cases i with
  | true => exact q.1 rfl
  | false => exact q.2 rfl) fun _ _ q => q)
theorem o_ite {t : Env → Sto → Res Bool} (h : OKR (t env S) (fun b S1 => Br b (OKR (f env S1) R E) (OKR (g env S1) R E)) E) : OKR (iteF t f g env S) R E := o_bind (h.mono (fun i _ q => by
  cases i with
  | true => exact q.1 rfl
  | false => exact q.2 rfl) fun _ _ q => q)
theorem o_chain {o p : D → D → Sto → Res D} (hh : OKR (f env S) (fun x S1 => OKR (g env S1) (fun y S2 => OKR (o x y S2) (fun d S3 => Bl d fun b => Br b (OKR (h env S3) (fun w S4 => OKR (p y w S4) R E) E) (R (.bl false) S3)) E) E) E) : OKR (chainF o p f g h env S) R E :=
  o_bind (hh.mono (fun _ _ q => o_bind (q.mono (fun _ _ q => o_bind (q.mono (fun _ _ q => by
    obtain ⟨i, rfl, q⟩ := q
    cases i with
    | true => exact o_bind (q.1 rfl)
    | false => exact q.2 rfl) fun _ _ q => q)) fun _ _ q => q)) fun _ _ q => q)
theorem o_tup {k : Env → Sto → Res (List D)} (h : OKR (k env S) (fun l S1 => OKR (frzL l S1) (fun l S2 => l.length ≤ LINE ∧ R (.tup l) S2) E) E) : OKR (tupF k env S) R E := o_bind (h.mono (fun _ _ q => o_bind (q.mono (fun _ _ q => by
  rw [if_pos q.1]
  exact q.2) fun _ _ q => q)) fun _ _ q => q)
theorem o_lst {k : Env → Sto → Res (List D)} (h : OKR (k env S) (fun l S1 => OKR (frzL l S1) (fun l S2 => l.length ≤ LINE ∧ R (.lst l) S2) E) E) : OKR (lstF k env S) R E := o_bind (h.mono (fun _ _ q => o_bind (q.mono (fun _ _ q => by
  rw [if_pos q.1]
  exact q.2) fun _ _ q => q)) fun _ _ q => q)
theorem o_lstO {k : Env → Sto → Res (List D)} (h : OKR (k env S) (fun l S1 => OKR (frzL l S1) (fun l S2 => l.length ≤ LINE ∧ R (.ref S2.length) (S2 ++ [.lst false l])) E) E) : OKR (lstO k env S) R E := o_bind (h.mono (fun _ _ q => o_bind (q.mono (fun _ _ q => by
  rw [if_pos q.1]
  exact q.2) fun _ _ q => q)) fun _ _ q => q)
theorem o_frz0 {R : List D → Sto → Prop} (h : R [] S) : OKR (frzL [] S) R E := h
theorem o_frzc {d : D} {l : List D} {R : List D → Sto → Prop} (h : OKR (frz1 d S) (fun d S1 => OKR (frzL l S1) (fun l S2 => R (d :: l) S2) E) E) : OKR (frzL (d :: l) S) R E := o_bind (h.mono (fun _ _ q => o_bind (q.mono (fun _ _ q => q) fun _ _ q => q)) fun _ _ q => q)
def nr : D → Bool
  | .ref _ => false
  | .fn => false
  | _ => true
theorem frz1_nr {d : D} (h : nr d = true) : frz1 d S = .ok d S := by cases d <;> first | rfl | cases h
theorem frzL_nr : ∀ {l : List D}, l.all nr = true → frzL l S = .ok l S
  | [], _ => rfl
  | d :: l, h => by
    rw [List.all_cons, Bool.and_eq_true] at h
    unfold frzL
    rw [frz1_nr h.1]
    show (frzL l S).bind _ = _
    rw [frzL_nr h.2]
    rfl
theorem o_frz {d : D} (e : nr d = true) (h : R d S) : OKR (frz1 d S) R E := OKR.of_eq (frz1_nr e) h
theorem o_mt {t : Ty} {m : Mt} {k : Env → Sto → Res (List D)} (h : OKR (f env S) (fun d S1 => hasTy t d S1 = true ∧ OKR (k env S1) (fun as S2 => OKR (m d as S2) R E) E) E) : OKR (mtF t m f k env S) R E := o_bind (h.mono (fun _ _ q => by
  rw [if_pos q.1]
  exact o_bind q.2) fun _ _ q => q)
theorem o_mt0 {t : Ty} {m : Mt} (h : OKR (f env S) (fun d S1 => hasTy t d S1 = true ∧ OKR (m d [] S1) R E) E) : OKR (mtF0 t m f env S) R E := o_bind (h.mono (fun _ _ q => by
  rw [if_pos q.1]
  exact q.2) fun _ _ q => q)
theorem o_slice {lo hi : Env → Sto → Res (Option Int)} (h : OKR (f env S) (fun a S1 => OKR (lo env S1) (fun l S2 => OKR (hi env S2) (fun h S3 => OKR (cutD a l h S3) R E) E) E) E) : OKR (sliceF f lo hi env S) R E := o_bind (h.mono (fun _ _ q => o_bind (q.mono (fun _ _ q => o_bind (q.mono (fun _ _ q => q) fun _ _ q => q)) fun _ _ q => q)) fun _ _ q => q)
theorem o_nopart {R : Option Int → Sto → Prop} (h : R none S) : OKR (noPart env S) R E := h
theorem o_part {R : Option Int → Sto → Prop} (h : OKR (f env S) (fun d S1 => ∃ i, d = .int i ∧ R (some i) S1) E) : OKR (partF f env S) R E := o_bind (h.mono (fun _ _ q => by
  obtain ⟨i, rfl, q⟩ := q
  exact q) fun _ _ q => q)
theorem o_isB {R : Bool → Sto → Prop} (h : OKR (f env S) (fun d S1 => Bl d fun b => R b S1) E) : OKR (isB f env S) R E := o_bind (h.mono (fun _ _ q => by
  obtain ⟨i, rfl, q⟩ := q
  exact q) fun _ _ q => q)
theorem o_andT {f g : Env → Sto → Res Bool} {R : Bool → Sto → Prop} (h : OKR (f env S) (fun b S1 => Br b (OKR (g env S1) R E) (R false S1)) E) : OKR (andT f g env S) R E := o_bind (h.mono (fun i _ q => by
  cases i with
  | true => exact q.1 rfl
  | false => exact q.2 rfl) fun _ _ q => q)
theorem o_orT {f g : Env → Sto → Res Bool} {R : Bool → Sto → Prop} (h : OKR (f env S) (fun b S1 => Br b (R true S1) (OKR (g env S1) R E)) E) : OKR (orT f g env S) R E := o_bind (h.mono (fun i _ q => by
  cases i with
  | true => exact q.1 rfl
  | false => exact q.2 rfl) fun _ _ q => q)
theorem o_notT {f : Env → Sto → Res Bool} {R : Bool → Sto → Prop} (h : OKR (f env S) (fun b S1 => R (!b) S1) E) : OKR (notT f env S) R E := o_bind (h.mono (fun _ _ q => q) fun _ _ q => q)
theorem o_yes {R : Bool → Sto → Prop} (h : R true S) : OKR (yesF env S) R E := h
theorem bl_mk {x : Bool} {R : Bool → Prop} (h : R x) : Bl (.bl x) R := ⟨x, rfl, h⟩
theorem br_t {A B : Prop} (h : A) : Br true A B := ⟨fun _ => h, fun e => by cases e⟩
theorem br_f {A B : Prop} (h : B) : Br false A B := ⟨fun e => (by cases e), fun _ => h⟩
theorem br_dec {p : Prop} [Decidable p] {A B : Prop} (h1 : p → A) (h2 : ¬ p → B) : Br (decide p) A B := ⟨fun e => h1 (of_decide_eq_true e), fun e => h2 (of_decide_eq_false e)⟩
theorem br_ndec {p : Prop} [Decidable p] {A B : Prop} (h1 : p → B) (h2 : ¬ p → A) : Br (!decide p) A B := ⟨fun e => h2 (by simpa using e), fun e => h1 (by simpa using e)⟩
theorem br_not {x : Bool} {A B : Prop} (h : Br x B A) : Br (!x) A B := ⟨fun e => h.2 (by simpa using e), fun e => h.1 (by simpa using e)⟩
theorem o_seq {f g : Env → Sto → SR} (h : OKS (f env S) (fun e S1 => OKS (g e S1) N B C T X) B C T X) : OKS (seqF f g env S) N B C T X := by
  unfold seqF
  cases r : f env S with
  | nx e S1 =>
    rw [r] at h
    exact h
  | bk e S1 =>
    rw [r] at h
    exact h
  | ct e S1 =>
    rw [r] at h
    exact h
  | rt e S1 =>
    rw [r] at h
    exact h
  | ex d e S1 =>
    rw [r] at h
    exact h
  | bad =>
    rw [r] at h
    exact h
theorem o_set {i : Nat} (h : OKR (f env S) (fun d S1 => N (env.set i (some d)) S1) fun e S1 => X e env S1) : OKS (setF i f env S) N B C T X := o_thn h
theorem o_ret (h : OKR (f env S) (fun d S1 => T d S1) fun e S1 => X e env S1) : OKS (retF f env S) N B C T X := o_thn h
theorem o_drop (h : OKR (f env S) (fun d S1 => N env S1) fun e S1 => X e env S1) : OKS (dropF f env S) N B C T X := o_thn h
theorem o_nop (h : N env S) : OKS (nopF env S) N B C T X := h
theorem o_if {t : Env → Sto → Res Bool} {f g : Env → Sto → SR} (h : OKR (t env S) (fun b S1 => Br b (OKS (f env S1) N B C T X) (OKS (g env S1) N B C T X)) fun e S1 => X e env S1) : OKS (ifF t f g env S) N B C T X := o_thn (h.mono (fun i _ q => by
  cases i with
  | true => exact q.1 rfl
  | false => exact q.2 rfl) fun _ _ q => q)
theorem o_par {is : List Nat} {k : Env → Sto → Res (List D)} (h : OKR (k env S) (fun as S1 => as.length = is.length ∧ N (parF.putAll is as env) S1) fun e S1 => X e env S1) : OKS (parF is k env S) N B C T X := o_thn (h.mono (fun _ _ q => by
  rw [if_pos q.1]
  exact q.2) fun _ _ q => q)
theorem o_unp {t : Tgt} (h : OKR (f env S) (fun d S1 => ∃ env1, t.put d env = some env1 ∧ N env1 S1) fun e S1 => X e env S1) : OKS (unpF t f env S) N B C T X := o_thn (h.mono (fun _ _ q => by
  obtain ⟨e1, q1, q2⟩ := q
  rw [q1]
  exact q2) fun _ _ q => q)
theorem o_aug {i : Nat} {o : Int → Int → Int} {x : Int} (e : env[i]? = some (some (.int x))) (h : OKR (f env S) (fun d S1 => ∃ y, d = .int y ∧ N (env.set i (some (.int (o x y)))) S1) fun e S1 => X e env S1) : OKS (augF i o f env S) N B C T X := by
  unfold augF
  rw [e]
  exact o_thn (h.mono (fun _ _ q => by
    obtain ⟨y, rfl, q⟩ := q
    exact q) fun _ _ q => q)
theorem o_put {o i e : Env → Sto → Res D} (h : OKR (e env S) (fun v S1 => OKR (o env S1) (fun a S2 => OKR (i env S2) (fun b S3 => OKR (setD a b v S3) (fun _ S4 => N env S4) fun e S1 => X e env S1) fun e S1 => X e env S1) fun e S1 => X e env S1) fun e S1 => X e env S1) : OKS (putF o i e env S) N B C T X :=
  o_thn (h.mono (fun _ _ q => o_thn (q.mono (fun _ _ q => o_thn (q.mono (fun _ _ q => o_thn (q.mono (fun _ _ q => q) fun _ _ q => q)) fun _ _ q => q)) fun _ _ q => q)) fun _ _ q => q)
theorem o_fn {n k : Nat} {c : Bool} {body : Env → Sto → SR} {args : List D} (hl : args.length = n)
    (h : OKS (body (args.map some ++ List.replicate k none) S) (fun _ S' => OKR (if c then fin S.length .non S' else .ok .non S') R E) (fun _ _ => False) (fun _ _ => False) (fun d S' => OKR (if c then fin S.length d S' else .ok d S') R E) (fun e _ S' => E e (S'.take S.length))) : OKR (fnM n k c body args S) R E := by
  unfold fnM
  rw [if_pos hl]
  unfold fnEnd
  cases r : body (args.map some ++ List.replicate k none) S with
  | nx e S1 =>
    rw [r] at h
    exact h
  | bk e S1 =>
    rw [r] at h
    exact h.elim
  | ct e S1 =>
    rw [r] at h
    exact h.elim
  | rt e S1 =>
    rw [r] at h
    exact h
  | ex d e S1 =>
    rw [r] at h
    exact h
  | bad =>
    rw [r] at h
    exact h.elim
theorem o_fin {n : Nat} {d : D} {S' : Sto} (e : nr d = true) (h : R d (S'.take n)) : OKR (if true = true then fin n d S' else .ok d S') R E := by
  rw [if_pos rfl]
  cases d <;> first | exact h | cases e
theorem o_nofin {n : Nat} {d : D} {S' : Sto} (h : R d S') : OKR (if false = true then fin n d S' else .ok d S') R E := h
theorem forL_ok {t : Tgt} {b : Env → Sto → SR} {g : Option Nat} {o : Option Ob} (I : List D → Env → Sto → Prop) (hg : ∀ l env S n, I l env S → g = some n → S[n]? = o)
    (hs : ∀ d r env S, I (d :: r) env S → ∃ env1, t.put d env = some env1 ∧ OKS (b env1 S) (I r) N (I r) T X) (he : ∀ env S, I [] env S → N env S) : ∀ l env S, I l env S → OKS (forL t b g o l env S) N B C T X := by
  intro l
  induction l with
  | nil =>
    intro env S h
    unfold forL
    cases g with
    | none => exact he env S h
    | some n =>
      dsimp only
      rw [if_pos (hg _ _ _ n h rfl)]
      exact he env S h
  | cons d r ih =>
    intro env S h
    obtain ⟨env1, e1, hb⟩ := hs d r env S h
    have go : OKS (match t.put d env with
      | none => .bad
      | some env1 => match b env1 S with
        | .nx env2 S2 => forL t b g o r env2 S2
        | .ct env2 S2 => forL t b g o r env2 S2
        | .bk env2 S2 => .nx env2 S2
        | .rt d S2 => .rt d S2
        | .ex e env2 S2 => .ex e env2 S2
        | .bad => .bad) N B C T X := by
      rw [e1]
      dsimp only
      cases r2 : b env1 S with
      | nx e S1 =>
        rw [r2] at hb
        exact ih e S1 hb
      | bk e S1 =>
        rw [r2] at hb
        exact hb
      | ct e S1 =>
        rw [r2] at hb
        exact ih e S1 hb
      | rt e S1 =>
        rw [r2] at hb
        exact hb
      | ex d e S1 =>
        rw [r2] at hb
        exact hb
      | bad =>
        rw [r2] at hb
        exact hb
    unfold forL
    cases g with
    | none => exact go
    | some n =>
      dsimp only
      rw [if_pos (hg _ _ _ n h rfl)]
      exact go
theorem o_for {it : Env → Sto → Res Itm} {t : Tgt} {b : Env → Sto → SR} (h : OKR (it env S) (fun J S1 => OKS (forL t b J.g J.o J.l env S1) N B C T X) fun e S1 => X e env S1) : OKS (itF it t b env S) N B C T X := o_thn h
theorem o_while {t : Env → Sto → Res Bool} {b : Env → Sto → SR} (I : Nat → Env → Sto → Prop) (hs : ∀ n env S, I n env S → OKR (t env S) (fun c S1 => Br c (OKS (b env S1) (fun e S2 => ∃ m, m < n ∧ I m e S2) N (fun e S2 => ∃ m, m < n ∧ I m e S2) T X) (N env S1)) fun e S1 => X e env S1) :
    ∀ n env S, n < FUEL → I n env S → OKS (whileF t b env S) N B C T X := by
  have main : ∀ k n env S, n < k → I n env S → OKS (whileN t b k env S) N B C T X := by
    intro k
    induction k with
    | zero => intro n env S h; omega
    | succ k ih =>
      intro n env S hn hI
      unfold whileN
      refine o_thn ((hs n env S hI).mono (fun c S1 q => ?_) fun _ _ q => q)
      cases c with
      | false => exact q.2 rfl
      | true =>
        have q := q.1 rfl
        dsimp only
        cases r2 : b env S1 with
        | nx e S2 =>
          rw [r2] at q
          obtain ⟨m, hm, q⟩ := q
          exact ih m e S2 (by omega) q
        | bk e S2 =>
          rw [r2] at q
          exact q
        | ct e S2 =>
          rw [r2] at q
          obtain ⟨m, hm, q⟩ := q
          exact ih m e S2 (by omega) q
        | rt e S2 =>
          rw [r2] at q
          exact q
        | ex d e S2 =>
          rw [r2] at q
          exact q
        | bad =>
          rw [r2] at q
          exact q
  exact fun n env S hn hI => main FUEL n env S hn hI
theorem lcL_ok {t : Tgt} {c : Env → Sto → Res Bool} {e : Env → Sto → Res D} {g : Option Nat} {o : Option Ob} {P : List D → Sto → Prop} (I : List D → Sto → List D → Prop) (hg : ∀ l S n acc, I l S acc → g = some n → S[n]? = o)
    (hs : ∀ d r S acc, I (d :: r) S acc → ∃ env1, t.put d env = some env1 ∧ OKR (c env1 S) (fun b S1 => Br b (OKR (e env1 S1) (fun v S2 => OKR (frz1 v S2) (fun w S3 => I r S3 (acc ++ [w])) fun _ _ => False) fun _ _ => False) (I r S1 acc)) fun _ _ => False) :
    ∀ l S acc, I l S acc → (∀ S acc, I [] S acc → P acc S) → OKR (lcL t c e g o env l S) (fun l S => P (acc ++ l) S) E := by
  intro l
  induction l with
  | nil =>
    intro S acc h hP
    unfold lcL
    cases g with
    | none =>
      show P (acc ++ []) S
      rw [List.append_nil]
      exact hP S acc h
    | some n =>
      dsimp only
      rw [if_pos (hg _ _ n _ h rfl)]
      show P (acc ++ []) S
      rw [List.append_nil]
      exact hP S acc h
  | cons d r ih =>
    intro S acc h hP
    obtain ⟨env1, e1, hc⟩ := hs d r S acc h
    have go : OKR (match t.put d env with
      | none => .bad
      | some env1 => match c env1 S with
        | .ok true S1 => match e env1 S1 with
          | .ok v S2 => match frz1 v S2 with
            | .ok w S3 => (lcL t c e g o env r S3).bind fun l S4 => .ok (w :: l) S4
            | _ => .bad
          | _ => .bad
        | .ok false S1 => lcL t c e g o env r S1
        | _ => .bad) (fun l S => P (acc ++ l) S) E := by
      rw [e1]
      dsimp only
      cases r1 : c env1 S with
      | bad =>
        rw [r1] at hc
        exact hc.elim
      | ex _ _ =>
        rw [r1] at hc
        exact hc.elim
      | ok b S1 =>
        rw [r1] at hc
        cases b with
        | false => exact ih S1 acc (hc.2 rfl) hP
        | true =>
          have hc := hc.1 rfl
          dsimp only
          cases r2 : e env1 S1 with
          | bad =>
            rw [r2] at hc
            exact hc.elim
          | ex _ _ =>
            rw [r2] at hc
            exact hc.elim
          | ok v S2 =>
            rw [r2] at hc
            dsimp only
            have hc : OKR (frz1 v S2) (fun w S3 => I r S3 (acc ++ [w])) fun _ _ => False := hc
            cases r3 : frz1 v S2 with
            | bad =>
              rw [r3] at hc
              exact hc.elim
            | ex _ _ =>
              rw [r3] at hc
              exact hc.elim
            | ok w S3 =>
              rw [r3] at hc
              refine o_bind ((ih S3 (acc ++ [w]) hc hP).mono (fun l S4 q => ?_) fun _ _ q => q)
              rw [List.append_assoc] at q
              exact q
    unfold lcL
    cases g with
    | none => exact go
    | some n =>
      dsimp only
      rw [if_pos (hg _ _ n _ h rfl)]
      exact go
theorem o_lc {own : List Nat} {it : Env → Sto → Res Itm} {t : Tgt} {c : Env → Sto → Res Bool} {e : Env → Sto → Res D} (h : OKR (it env S) (fun J S1 => J.l.length ≤ LINE ∧ OKR (lcL t c e J.g J.o (wipeE env own) J.l S1) (fun l S2 => R (.lst l) S2) E) E) : OKR (lcF own it t c e env S) R E :=
  o_bind (o_bind (h.mono (fun J _ q => by
    rw [if_pos q.1]
    exact q.2.mono (fun _ _ q => q) fun _ _ q => q) fun _ _ q => q))
theorem o_lcO {own : List Nat} {it : Env → Sto → Res Itm} {t : Tgt} {c : Env → Sto → Res Bool} {e : Env → Sto → Res D} (h : OKR (it env S) (fun J S1 => J.l.length ≤ LINE ∧ OKR (lcL t c e J.g J.o (wipeE env own) J.l S1) (fun l S2 => R (.ref S2.length) (S2 ++ [.lst false l])) E) E) : OKR (lcO own it t c e env S) R E :=
  o_bind (o_bind (h.mono (fun J _ q => by
    rw [if_pos q.1]
    exact q.2.mono (fun _ _ q => q) fun _ _ q => q) fun _ _ q => q))
theorem o_itR1 {k : Env → Sto → Res (List D)} {R : Itm → Sto → Prop} (h : OKR (k env S) (fun as S1 => ∃ j, as = [.int j] ∧ isSm j = true ∧ R ⟨rangeL 0 j.toNat, none, none⟩ S1) E) : OKR (itR1 k env S) R E := o_bind (h.mono (fun _ _ q => by
  obtain ⟨j, rfl, e, q⟩ := q
  show OKR (if isSm j = true then _ else _) R E
  rw [if_pos e]
  exact q) fun _ _ q => q)
theorem o_itR2 {k : Env → Sto → Res (List D)} {R : Itm → Sto → Prop} (h : OKR (k env S) (fun as S1 => ∃ i j, as = [.int i, .int j] ∧ (isSm i && isSm j) = true ∧ R ⟨rangeL i (j - i).toNat, none, none⟩ S1) E) : OKR (itR2 k env S) R E := o_bind (h.mono (fun _ _ q => by
  obtain ⟨i, j, rfl, e, q⟩ := q
  show OKR (if (isSm i && isSm j) = true then _ else _) R E
  rw [if_pos e]
  exact q) fun _ _ q => q)
def Sq (d : D) (S : Sto) (R : Itm → Sto → Prop) : Prop := match d with
  | .lst l => R ⟨l, none, none⟩ S
  | .tup l => R ⟨l, none, none⟩ S
  | .str s => R ⟨sgL s, none, none⟩ S
  | .ref n => ∃ fz l, S[n]? = some (.lst fz l) ∧ R ⟨l, some n, some (.lst fz l)⟩ S
  | _ => False
theorem sq_lst {l : List D} {R : Itm → Sto → Prop} (h : R ⟨l, none, none⟩ S) : Sq (.lst l) S R := h
theorem sq_tup {l : List D} {R : Itm → Sto → Prop} (h : R ⟨l, none, none⟩ S) : Sq (.tup l) S R := h
theorem sq_str {s : List Nat} {R : Itm → Sto → Prop} (h : R ⟨sgL s, none, none⟩ S) : Sq (.str s) S R := h
theorem o_itS {R : Itm → Sto → Prop} (h : OKR (f env S) (fun d S1 => Sq d S1 R) E) : OKR (itS f env S) R E := o_bind (h.mono (fun d S1 q => by
  cases d with
  | lst l => exact q
  | tup l => exact q
  | str l => exact q
  | ref n =>
    obtain ⟨fz, l, e, q⟩ := q
    show OKR (match S1[n]? with
      | some (.lst fz l) => Res.ok (⟨l, some n, some (.lst fz l)⟩ : Itm) S1
      | _ => .bad) R E
    rw [e]
    exact q
  | _ => exact q.elim) fun _ _ q => q)
def SqE (as : List D) (S : Sto) (R : Itm → Sto → Prop) : Prop := match as with
  | [.lst l] => R ⟨enumL 0 l, none, none⟩ S
  | [.ref n] => ∃ fz l, S[n]? = some (.lst fz l) ∧ R ⟨enumL 0 l, some n, some (.lst fz l)⟩ S
  | _ => False
theorem sqe_lst {l : List D} {R : Itm → Sto → Prop} (h : R ⟨enumL 0 l, none, none⟩ S) : SqE [.lst l] S R := h
theorem o_itE {k : Env → Sto → Res (List D)} {R : Itm → Sto → Prop} (h : OKR (k env S) (fun as S1 => SqE as S1 R) E) : OKR (itE k env S) R E := o_bind (h.mono (fun d S1 q => by
  unfold SqE at q
  split at q
  · exact q
  · rename_i n
    obtain ⟨fz, l, e, q⟩ := q
    show OKR (match S1[n]? with
      | some (.lst fz l) => Res.ok (⟨enumL 0 l, some n, some (.lst fz l)⟩ : Itm) S1
      | _ => .bad) R E
    rw [e]
    exact q
  · exact q.elim) fun _ _ q => q)
theorem o_add {i j : Int} (h : R (.int (i + j)) S) : OKR (addD (.int i) (.int j) S) R E := h
theorem o_sub {i j : Int} (h : R (.int (i - j)) S) : OKR (subD (.int i) (.int j) S) R E := h
theorem o_mul {i j : Int} (e : cMul i j = true) (h : R (.int (i * j)) S) : OKR (mulD (.int i) (.int j) S) R E := by
  show OKR (if cMul i j = true then _ else _) R E
  rw [if_pos e]
  exact h
theorem o_fdiv {i j : Int} (e : cDiv i j = true) (h : R (.int (i.fdiv j)) S) : OKR (fdivD (.int i) (.int j) S) R E := by
  show OKR (if cDiv i j = true then _ else _) R E
  rw [if_pos e]
  exact h
theorem o_mod {i j : Int} (e : cMod i j = true) (h : R (.int (i.fmod j)) S) : OKR (modD (.int i) (.int j) S) R E := by
  show OKR (if cMod i j = true then _ else _) R E
  rw [if_pos e]
  exact h
theorem o_pow {i j : Int} (e : cPow i j = true) (h : R (.int (i ^ j.toNat)) S) : OKR (powD (.int i) (.int j) S) R E := by
  show OKR (if cPow i j = true then _ else _) R E
  rw [if_pos e]
  exact h
theorem o_lt {i j : Int} (h : R (.bl (decide (i < j))) S) : OKR (ltD (.int i) (.int j) S) R E := h
theorem o_le {i j : Int} (h : R (.bl (decide (i ≤ j))) S) : OKR (leD (.int i) (.int j) S) R E := h
theorem o_gt {i j : Int} (h : R (.bl (decide (j < i))) S) : OKR (gtD (.int i) (.int j) S) R E := h
theorem o_ge {i j : Int} (h : R (.bl (decide (j ≤ i))) S) : OKR (geD (.int i) (.int j) S) R E := h
theorem o_ixL {l : List D} {n : Nat} {k : Int} {d : D} (hl : getL (.ref n) S = some l) (e : atI l k = some d) (h : R d S) : OKR (ixD (.ref n) (.int k) S) R E := by
  show OKR (match getL (.ref n) S, (D.int k) with
    | some l, .int k => ixL (atI l k) fun d => .ok d S
    | some _, _ => .bad
    | none, i => ixL (getP (.ref n) S) fun l => ixL (dkey i) fun _ => ixL (lookD l i) fun d => .ok d S) R E
  rw [hl]
  dsimp only
  rw [e]
  exact h
theorem o_ixl {l : List D} {k : Int} {d : D} (e : atI l k = some d) (h : R d S) : OKR (ixD (.lst l) (.int k) S) R E := by
  show OKR (ixL (atI l k) fun d => .ok d S) R E
  rw [e]
  exact h
theorem o_ixt {l : List D} {k : Int} {d : D} (e : atI l k = some d) (h : R d S) : OKR (ixD (.tup l) (.int k) S) R E := by
  show OKR (ixL (atI l k) fun d => .ok d S) R E
  rw [e]
  exact h
theorem fmod_lo {i j : Int} (h : 0 < j) : 0 ≤ i.fmod j := Int.fmod_nonneg_of_pos i h
theorem fmod_hi {i j : Int} (h : 0 < j) : i.fmod j < j := Int.fmod_lt_of_pos i h
theorem cMod_ne {i j : Int} (h : j ≠ 0) : cMod i j = true := decide_eq_true h
theorem o_modB {i j : Int} (e : 0 < j) (h : ∀ v, 0 ≤ v → v < j → R (.int v) S) : OKR (modD (.int i) (.int j) S) R E := o_mod (cMod_ne (by omega)) (h _ (fmod_lo e) (fmod_hi e))
theorem log2_le {n k : Nat} (h : n < 2 ^ k) : n.log2 ≤ k := by
  by_cases c : n = 0
  · rw [c]
    exact Nat.zero_le _
  · have := (Nat.log2_lt c).mpr h
    omega
theorem cMul_of {i j : Int} {k l : Nat} (h1 : i.natAbs < 2 ^ k) (h2 : j.natAbs < 2 ^ l) (h : k + l < 100000000) : cMul i j = true := by
  have a := log2_le h1
  have b := log2_le h2
  exact decide_eq_true (by omega)
theorem cMul64 {i j : Int} (h1 : i.natAbs < 18446744073709551616) (h2 : j.natAbs < 18446744073709551616) : cMul i j = true := cMul_of (k := 64) (l := 64) (by omega) (by omega) (by decide)
theorem bits_le {i : Int} {k : Nat} (h : i.natAbs < 2 ^ k) : Builtin.Int.intBits i ≤ k + 1 := by
  have := log2_le h
  unfold Builtin.Int.intBits
  split <;> omega
theorem cPow_of {i j : Int} {k : Nat} (h0 : 0 ≤ j) (h : i.natAbs < 2 ^ k) (hk : ((k : Int) + 1) * j ≤ 134217728) : cPow i j = true := by
  have b := bits_le h
  unfold cPow
  have c : (Builtin.Int.intBits i : Int) * j ≤ ((k : Int) + 1) * j := Int.mul_le_mul_of_nonneg_right (by omega) h0
  rw [decide_eq_true h0, decide_eq_true (Int.le_trans c hk)]
  rfl
theorem cPow64 {i j : Int} (h0 : 0 ≤ j) (h1 : j ≤ 1000000) (h2 : i.natAbs < 18446744073709551616) : cPow i j = true := cPow_of (k := 64) h0 (by omega) (by omega)
theorem cDiv_of {i j : Int} {k : Nat} (h0 : j ≠ 0) (h1 : j.natAbs < 2 ^ k) (h : k < 9000) : cDiv i j = true := by
  unfold cDiv
  have := log2_le h1
  rw [decide_eq_true h0, PyProof.noPylong_of_log2 (by omega)]
  rfl
theorem cDiv64 {i j : Int} (h0 : j ≠ 0) (h1 : j.natAbs < 18446744073709551616) : cDiv i j = true := cDiv_of (k := 64) h0 (by omega) (by decide)
theorem o_setL {n : Nat} {l : List D} {k : Int} {j : Nat} {v : D} {R : Unit → Sto → Prop} (hn : S[n]? = some (.lst false l)) (hv : nr v = true) (hk : ixN l.length k = some j) (h : ∀ S1, S1 = S.set n (.lst false (l.set j v)) → R () S1) : OKR (setD (.ref n) (.int k) v S) R E := by
  show OKR ((frz1 v S).bind (setIn n (.int k))) R E
  rw [frz1_nr hv]
  show OKR (setIn n (.int k) v S) R E
  unfold setIn
  rw [hn]
  dsimp only
  rw [hk]
  exact h _ rfl
theorem getL_ref {n : Nat} {fz : Bool} {l : List D} (hn : S[n]? = some (.lst fz l)) : getL (.ref n) S = some l := by
  unfold getL
  dsimp only
  rw [hn]
theorem o_app {n : Nat} {l : List D} {v : D} (hn : S[n]? = some (.lst false l)) (hv : nr v = true) (hl : l.length < LINE) (h : R .non (S.set n (.lst false (l ++ [v])))) : OKR (appM (.ref n) [v] S) R E := by
  show OKR ((frz1 v S).bind (appIn n)) R E
  rw [frz1_nr hv]
  show OKR (appIn n v S) R E
  unfold appIn
  rw [hn]
  dsimp only
  rw [if_pos hl]
  exact h
theorem set_len {n : Nat} {o : Ob} : (S.set n o).length = S.length := List.length_set
theorem get_set {n : Nat} {o o' : Ob} (h : S[n]? = some o') : (S.set n o)[n]? = some o := List.getElem?_set_self (List.getElem?_eq_some_iff.mp h).1
theorem get_set_ne {n j : Nat} {o : Ob} (h : j ≠ n) : (S.set n o)[j]? = S[j]? := List.getElem?_set_ne (Ne.symm h)
theorem OKR.any {t : Res Bool} {A B : Sto → Prop} (h : OKR t (fun _ S2 => S2 = S) fun _ _ => False) (h1 : A S) (h2 : B S) : OKR t (fun b S1 => Br b (A S1) (B S1)) E := h.mono (fun b S2 q => by
  rw [q]
  exact ⟨fun _ => h1, fun _ => h2⟩) fun _ _ q => q.elim
theorem br_any {b : Bool} {A B : Prop} (h1 : A) (h2 : B) : Br b A B := ⟨fun _ => h1, fun _ => h2⟩
theorem e_in {neg : Bool} {a b v : D} (e : inD neg a b S = .ok v S) (h : R v S) : OKR (inD neg a b S) R E := OKR.of_eq e h
theorem e_eq {a b v : D} (e : eqD a b S = .ok v S) (h : R v S) : OKR (eqD a b S) R E := OKR.of_eq e h
theorem e_ne {a b v : D} (e : neD a b S = .ok v S) (h : R v S) : OKR (neD a b S) R E := OKR.of_eq e h
theorem e_is {neg : Bool} {a b v : D} (e : isNonD neg a b S = .ok v S) (h : R v S) : OKR (isNonD neg a b S) R E := OKR.of_eq e h
theorem e_len {as : List D} {v : D} (e : lenM as S = .ok v S) (h : R v S) : OKR (lenM as S) R E := OKR.of_eq e h
theorem e_isi {as : List D} {v : D} (e : isiM as S = .ok v S) (h : R v S) : OKR (isiM as S) R E := OKR.of_eq e h
end
theorem ex_int {x : Int} {A : Int → Prop} (h : A x) : ∃ i, D.int x = .int i ∧ A i := ⟨x, rfl, h⟩
theorem and_len {α : Type} {l : List α} {A : Prop} (e : Nat.ble l.length LINE = true) (h : A) : l.length ≤ LINE ∧ A := ⟨Nat.le_of_ble_eq_true e, h⟩
theorem and_lens {l : List D} {is : List Nat} {B : Prop} (e : l.length = is.length) (h : B) : l.length = is.length ∧ B := ⟨e, h⟩
theorem isSm_of {i : Int} (h : -4611686018427387904 ≤ i) (h2 : i < 4611686018427387904) : isSm i = true := decide_eq_true ⟨by omega, by omega⟩
theorem ex_r1 {x : Int} {A : Int → Prop} (e : isSm x = true) (h : A x) : ∃ j, [D.int x] = [.int j] ∧ isSm j = true ∧ A j := ⟨x, rfl, e, h⟩
theorem ex_r2 {x y : Int} {A : Int → Int → Prop} (e : isSm x = true) (e2 : isSm y = true) (h : A x y) : ∃ i j, [D.int x, D.int y] = [.int i, .int j] ∧ (isSm i && isSm j) = true ∧ A i j := ⟨x, y, rfl, by rw [e, e2]; rfl, h⟩
theorem hasTy_l {d : D} {S : Sto} {l : List D} (h : getL d S = some l) : hasTy .list d S = true := by
  show (getL d S).isSome = true
  rw [h]
  rfl
theorem and_ty {t : Ty} {d : D} {S : Sto} {A : Prop} (e : hasTy t d S = true) (h : A) : hasTy t d S = true ∧ A := ⟨e, h⟩
theorem ex_put {t : Tgt} {d : D} {env env1 : Env} {A : Env → Prop} (e : t.put d env = some env1) (h : A env1) : ∃ env1, t.put d env = some env1 ∧ A env1 := ⟨env1, e, h⟩
theorem sgL_len {s : List Nat} {A : Prop} (e : s.length ≤ LINE) (h : A) : (sgL s).length ≤ LINE ∧ A := ⟨by
  unfold sgL
  rw [List.length_map]
  exact e, h⟩
end Sm
namespace Sm
open PySem PySem.Spec PyProof.Rows L2
section
variable {E : D → Sto → Prop} {S : Sto} {R : D → Sto → Prop} {env : Env}
theorem lc_pure {t : Tgt} {c : Env → Sto → Res Bool} {e : Env → Sto → Res D} {o : Option Ob} {l : List D} {P : List D → Sto → Prop} (p : D → Bool) (f : D → D)
    (hs : ∀ d ∈ l, ∃ env1, t.put d env = some env1 ∧ OKR (c env1 S) (fun b S1 => b = p d ∧ S1 = S) (fun _ _ => False) ∧ (p d = true → OKR (e env1 S) (fun v S1 => v = f d ∧ S1 = S ∧ nr v = true) fun _ _ => False))
    (h : P ((l.filter p).map f) S) : OKR (lcL t c e none o env l S) P E := by
  have key := lcL_ok (t := t) (c := c) (e := e) (g := none) (o := o) (env := env) (E := E) (P := fun r S1 => S1 = S ∧ r = (l.filter p).map f) (fun l2 S1 acc => S1 = S ∧ (∀ d ∈ l2, d ∈ l) ∧ acc ++ (l2.filter p).map f = (l.filter p).map f)
    (fun _ _ _ _ _ z => nomatch z) (fun d r S1 acc hI => by
      obtain ⟨rfl, hm, ha⟩ := hI
      obtain ⟨env1, e1, hc, he⟩ := hs d (hm d (List.mem_cons_self ..))
      refine ⟨env1, e1, hc.mono (fun b S2 q => ?_) fun _ _ q => q⟩
      obtain ⟨rfl, rfl⟩ := q
      refine ⟨fun hb => ?_, fun hb => ?_⟩
      · refine (he hb).mono (fun v S3 q => ?_) fun _ _ q => q
        obtain ⟨rfl, rfl, hn⟩ := q
        refine o_frz hn ⟨rfl, fun d' hd => hm d' (List.mem_cons_of_mem _ hd), ?_⟩
        rw [List.filter_cons, if_pos hb, List.map_cons] at ha
        rw [List.append_assoc]
        exact ha
      · refine ⟨rfl, fun d' hd => hm d' (List.mem_cons_of_mem _ hd), ?_⟩
        rw [List.filter_cons, if_neg (by rw [hb]; exact Bool.false_ne_true)] at ha
        exact ha) l S [] ⟨rfl, fun _ h => h, rfl⟩ (fun S1 acc q => by
      obtain ⟨rfl, _, q⟩ := q
      rw [List.filter_nil, List.map_nil, List.append_nil] at q
      exact ⟨rfl, q⟩)
  refine key.mono (fun r S1 q => ?_) fun _ _ q => q
  obtain ⟨rfl, q⟩ := q
  have q' : r = (l.filter p).map f := q
  rw [q']
  exact h
theorem allBl_map {α : Type} (f : α → Bool) : ∀ l : List α, allBl (l.map fun x => D.bl (f x)) = some (l.map f)
  | [] => rfl
  | x :: l => by
    show (allBl (l.map fun x => D.bl (f x))).map (f x :: ·) = _
    rw [allBl_map f l]
    rfl
def cp (s : List Nat) : Bool := s.all fun c => decide (c < 0x110000)
theorem okD_str {s : List Nat} (h : cp s = true) (n : Nat) : okD n (.str s) = true := by
  cases n <;> exact h
theorem o_eqS {a b : List Nat} (h : R (.bl (decide (a = b))) S) : OKR (eqD (.str a) (.str b) S) R E := h
theorem o_neS {a b : List Nat} (h : R (.bl (!decide (a = b))) S) : OKR (neD (.str a) (.str b) S) R E := h
theorem o_eqI {a b : Int} (h : R (.bl (decide (a = b))) S) : OKR (eqD (.int a) (.int b) S) R E := by
  have e : (a == b) = decide (a = b) := rfl
  rw [← e] at h
  exact h
theorem o_neI {a b : Int} (h : R (.bl (!decide (a = b))) S) : OKR (neD (.int a) (.int b) S) R E := by
  have e : (a == b) = decide (a = b) := rfl
  rw [← e] at h
  exact h
theorem o_lenS {a : List Nat} (e : a.length ≤ LINE) (h : R (.int a.length) S) : OKR (lenM [.str a] S) R E := OKR.of_eq (S := S) (v := .int a.length) (by
  show (if a.length ≤ LINE then Res.ok (D.int a.length) S else .bad) = _
  rw [if_pos e]) h
theorem o_all {l : List D} {bs : List Bool} (e : allBl l = some bs) (h : R (.bl (bs.all id)) S) : OKR (allM [.lst l] S) R E := by
  show OKR (match getL (.lst l) S with
    | some l => match allBl l with
      | some bs => .ok (.bl (bs.all id)) S
      | none => .bad
    | none => .bad) R E
  show OKR (match allBl l with
      | some bs => .ok (.bl (bs.all id)) S
      | none => .bad) R E
  rw [e]
  exact h
theorem o_inS {c : Nat} {s : List Nat} (h : R (.bl (decide (c ∈ s))) S) : OKR (inD false (.str [c]) (.str s) S) R E := h
theorem o_ninS {c : Nat} {s : List Nat} (h : R (.bl (!decide (c ∈ s))) S) : OKR (inD true (.str [c]) (.str s) S) R E := h
theorem o_cutS {s : List Nat} {lo hi : Option Int} (e : s.length ≤ LINE) (h : R (.str (cutL s lo hi)) S) : OKR (cutD (.str s) lo hi S) R E := by
  show OKR (if s.length ≤ LINE then Res.ok (D.str (cutL s lo hi)) S else .bad) R E
  rw [if_pos e]
  exact h
theorem br_tt {b : Bool} {A B : Prop} (e : b = true) (h : A) : Br b A B := by
  subst e
  exact br_t h
theorem br_ff {b : Bool} {A B : Prop} (e : b = false) (h : B) : Br b A B := by
  subst e
  exact br_f h
theorem OKR.val {α : Type} {r : Res α} {R : α → Sto → Prop} (S : Sto) (x : α) (h : OKR r (fun d S1 => d = x ∧ S1 = S) fun _ _ => False) (k : R x S) : OKR r R E := h.mono (fun d S1 q => by
  obtain ⟨rfl, rfl⟩ := q
  exact k) fun _ _ q => q.elim
theorem o_isiT {d : D} {t : Option Ty} {u : Ty} (e : tyOf d S = some t) (h : R (.bl (tyIs t u)) S) : OKR (isiM [d, .ty u] S) R E := by
  show OKR (match tyOf d S with
    | some a => .ok (.bl (tyIs a u)) S
    | none => .bad) R E
  rw [e]
  exact h
theorem cut_take {α : Type} (s : List α) (n : Nat) : cutL s none (some (n : Int)) = s.take n := by
  unfold cutL
  rw [HT.sIx_none, HT.sIx_nat]
  show (s.drop 0).take (min n s.length - 0) = _
  rw [List.drop_zero, Nat.sub_zero, ← List.take_eq_take_min]
theorem OKS.val {r : SR} {N B C : Env → Sto → Prop} {T : D → Sto → Prop} {X : D → Env → Sto → Prop} (S : Sto) (env' : Env) (h : OKS r (fun e S1 => e = env' ∧ S1 = S) (fun _ _ => False) (fun _ _ => False) (fun _ _ => False) fun _ _ _ => False) (k : N env' S) : OKS r N B C T X := h.mono (fun d S1 q => by
  obtain ⟨rfl, rfl⟩ := q
  exact k) (fun _ _ q => q.elim) (fun _ _ q => q.elim) (fun _ _ q => q.elim) fun _ _ _ q => q.elim
end
end Sm
namespace Sm
open PySem PySem.Spec PyProof.Rows L2
end Sm
namespace Sm
open PySem PySem.Spec PyProof.Rows L2
mutual
def okI (B : Nat) : D → Bool
  | .int i => decide (i.natAbs < 10 ^ B)
  | .lst l => okIL B l
  | .tup l => okIL B l
  | _ => true
def okIL (B : Nat) : List D → Bool
  | [] => true
  | d :: l => okI B d && okIL B l
end
mutual
def rlen (B : Nat) : D → Nat
  | .non => 4
  | .bl _ => 5
  | .int _ => B + 1
  | .str s => 10 * s.length + 2
  | .lst l => rlenL B l + 2
  | .tup l => rlenL B l + 3
  | _ => 0
def rlenL (B : Nat) : List D → Nat
  | [] => 0
  | d :: l => rlen B d + 2 + rlenL B l
end
theorem strLen_app (x y : Str) : (x ++ y).length = x.length + y.length := Array.size_append ..
theorem textFrom_le : ∀ (ts : List Str) (k : Nat) (acc : Str), (textFrom k acc ts).length ≤ acc.length + (ts.map fun t => t.length + 2).sum
  | [], k, acc => Nat.le_refl _
  | t :: ts, k, acc => by
    have ih := textFrom_le ts (k + 1) (acc ++ (if k > 0 then ", " else "" : String) ++ t)
    have e : (acc ++ (if k > 0 then ", " else "" : String) ++ t).length ≤ acc.length + 2 + t.length := by
      rw [strLen_app, strLen_app]
      split
      · exact Nat.le_refl _
      · show acc.length + 0 + t.length ≤ _
        omega
    rw [List.map_cons, List.sum_cons]
    show (textFrom (k + 1) _ ts).length ≤ _
    omega
theorem join_le : ∀ ts : List Str, (Str.join ", " ts).length ≤ (ts.map fun t => t.length + 2).sum
  | [] => Nat.le_refl _
  | [x] => by
    show x.length ≤ x.length + 2 + 0
    omega
  | x :: y :: r => by
    have ih := join_le (y :: r)
    have e : (Str.join ", " (x :: y :: r)).length = x.length + 2 + (Str.join ", " (y :: r)).length := by
      show ((x ++ (", " : Str)) ++ Str.join ", " (y :: r)).length = _
      rw [strLen_app, strLen_app]
      rfl
    rw [e, List.map_cons, List.sum_cons]
    omega
mutual
theorem shown_le (B : Nat) (hB : 0 < B) (hB2 : B ≤ 577) : ∀ (d : D) (n : Nat), okD n d = true → okI B d = true → (py d).shown.length ≤ rlen B d ∧ (py d).showable = true
  | .non, n, _, _ => ⟨by show (4 : Nat) ≤ 4; decide, rfl⟩
  | .bl b, n, _, _ => by
    cases b
    · exact ⟨by show (5 : Nat) ≤ 5; decide, rfl⟩
    · exact ⟨by show (4 : Nat) ≤ 5; decide, rfl⟩
  | .int i, n, _, h => by
    have h : i.natAbs < 10 ^ B := of_decide_eq_true h
    constructor
    · have := PySem.int_text_length_le10 hB h
      show (Str.ofString (toString i)).length ≤ B + 1
      rw [PySem.ofString_length]
      omega
    · show decide (i.natAbs.log2 < 1920) = true
      apply decide_eq_true
      have h2 : (10 : Nat) ^ B ≤ 2 ^ 1919 := Nat.le_trans (Nat.pow_le_pow_right (by decide) hB2) (by decide +kernel)
      have := log2_le (Nat.lt_of_lt_of_le h h2)
      omega
  | .str s, n, h, _ => by
    have h : cp s = true := by cases n <;> exact h
    constructor
    · have := PySem.StrLaws.reprText_len ⟨s.toArray⟩ (fun c hc => by
        have := of_decide_eq_true (List.all_eq_true.mp h c hc)
        exact Nat.lt_trans this (by decide))
      have e : (⟨s.toArray⟩ : Str).length = s.length := List.size_toArray ..
      show (reprText ⟨s.toArray⟩).length ≤ 10 * s.length + 2
      omega
    · rfl
  | .lst l, 0, h, _ => by simp [okD] at h
  | .lst l, n + 1, h, k => by
    have h : okL n l = true := by simpa [okD] using h
    have k : okIL B l = true := by simpa [okI] using k
    obtain ⟨h1, h2⟩ := shownL_le B hB hB2 l n h k
    constructor
    · show (textFrom 0 "[" (PyData.shownAll (pyL l)) ++ ("]" : Str)).length ≤ rlenL B l + 2
      rw [strLen_app]
      have := textFrom_le (PyData.shownAll (pyL l)) 0 "["
      have e1 : (("[" : String) : Str).length = 1 := rfl
      have e2 : (("]" : String) : Str).length = 1 := rfl
      omega
    · exact h2
  | .tup l, 0, h, _ => by simp [okD] at h
  | .tup l, n + 1, h, k => by
    have h : okL n l = true := by simpa [okD] using h
    have k : okIL B l = true := by simpa [okI] using k
    obtain ⟨h1, h2⟩ := shownL_le B hB hB2 l n h k
    constructor
    · show ((("(" : Str) ++ Str.join ", " (PyData.shownAll (pyL l))) ++ (if (PyData.shownAll (pyL l)).length == 1 then ",)" else ")" : String)).length ≤ rlenL B l + 3
      rw [strLen_app, strLen_app]
      have := join_le (PyData.shownAll (pyL l))
      have e1 : (("(" : String) : Str).length = 1 := rfl
      have e2 : ((if (PyData.shownAll (pyL l)).length == 1 then ",)" else ")" : String) : Str).length ≤ 2 := by
        split
        · exact Nat.le_refl _
        · show 1 ≤ 2
          decide
      omega
    · exact h2
  | .dic x, n, h, _ => by cases n <;> simp [okD] at h
  | .ref x, n, h, _ => by cases n <;> simp [okD] at h
  | .exc x y, n, h, _ => by cases n <;> simp [okD] at h
  | .cls x, n, h, _ => by cases n <;> simp [okD] at h
  | .ty x, n, h, _ => by cases n <;> simp [okD] at h
  | .fn, n, h, _ => by cases n <;> simp [okD] at h
theorem shownL_le (B : Nat) (hB : 0 < B) (hB2 : B ≤ 577) : ∀ (l : List D) (n : Nat), okL n l = true → okIL B l = true → ((PyData.shownAll (pyL l)).map fun t => t.length + 2).sum ≤ rlenL B l ∧ PyData.showableAll (pyL l) = true
  | [], n, _, _ => ⟨Nat.le_refl _, rfl⟩
  | d :: l, n, h, k => by
    have h : okD n d = true ∧ okL n l = true := by simpa [okL] using h
    have k : okI B d = true ∧ okIL B l = true := by simpa [okIL] using k
    obtain ⟨h1, h2⟩ := shown_le B hB hB2 d n h.1 k.1
    obtain ⟨h3, h4⟩ := shownL_le B hB hB2 l n h.2 k.2
    constructor
    · show (py d).shown.length + 2 + ((PyData.shownAll (pyL l)).map fun t => t.length + 2).sum ≤ rlen B d + 2 + rlenL B l
      omega
    · show ((py d).showable && PyData.showableAll (pyL l)) = true
      rw [h2, h4]
      rfl
end
theorem canRepr_of (B : Nat) {d : D} (h : okD 60 d = true) (k : okI B d = true) (hl : rlen B d ≤ LINE) (hB : 0 < B) (hB2 : B ≤ 577) : canRepr d = true := by
  obtain ⟨h1, h2⟩ := shown_le B hB hB2 d 60 h k
  unfold canRepr
  rw [h2, decide_eq_true (Nat.le_trans h1 hl)]
  rfl
section
variable {E : D → Sto → Prop} {S : Sto} {R : D → Sto → Prop} {env : Env}
theorem o_repr (B : Nat) {d : D} (hr : hasR d S = true) (h : okD 60 (see d S) = true) (k : okI B (see d S) = true) (hl : rlen B (see d S) ≤ LINE) (hB : 0 < B) (hB2 : B ≤ 577) (hq : R (.str (reprD (see d S))) S) : OKR (reprM [d] S) R E := by
  show OKR (if (plain d S && canRepr (see d S)) = true then Res.ok (D.str (reprD (see d S))) S else .bad) R E
  unfold plain
  rw [hr, h, canRepr_of B h k hl hB hB2]
  exact hq
theorem br_self {α : Type} [DecidableEq α] {x : α} {A B : Prop} (h : A) : Br (decide (x = x)) A B := br_tt (decide_eq_true rfl) h
theorem atI_in {α : Type} {l : List α} {v : Int} (h0 : 0 ≤ v) (h1 : v < l.length) : ∃ x, atI l v = some x ∧ x ∈ l := by
  obtain ⟨n, rfl⟩ := Int.eq_ofNat_of_zero_le h0
  have hn : n < l.length := by omega
  exact ⟨l[n], atI_nat (List.getElem?_eq_getElem hn), List.getElem_mem hn⟩
theorem o_ixB {l : List D} {v : Int} (h0 : 0 ≤ v) (h1 : v < l.length) (h : ∀ d ∈ l, R d S) : OKR (ixD (.lst l) (.int v) S) R E := by
  obtain ⟨x, e, hx⟩ := atI_in h0 h1
  exact o_ixl e (h x hx)
end
end Sm
namespace Sm
open PySem PySem.Spec PyProof.Rows L2
section
variable {X : Cx} {M : Lm} {W : WX} {K : PySem.W.Frag} {z : Sg}
end
end Sm
namespace Sm
open PySem PySem.Spec PyProof.Rows L2
structure XcF (K : PySem.W.Frag) (C : Addr) : Prop where
  ex : PySem.W.excIn K C [.type "ValueError", .type "Exception", .type "BaseException", .type "object"] "ValueError.__new__" = true
  kp : PySem.W.keepIn K (.ref C) = true
  sb : PySem.W.subIn K (.ref C) (.type "BaseException") = some true
  ty : PySem.W.typeIn K (.ref C) = some (.type "type")
section
variable {X : Cx} {M : Lm} {W : WX}
def raiseF (k : Nat) : Env → Sto → SR := fun env S => .ex (.exc k []) env S
theorem ss_raise (k : Nat) {x m : Str} {j : Nat} {p p2 pos pos2 : Pos} (hc : X.calm = true) (tk : Takes X W) (C : XcF X.K (M.cls k)) (hm : X.mg x = some (.ref (M.cls k))) (hg : Gl X x := by rfl) (hdb : (x == ("__debug__" : Str)) = false := by decide) :
    SS X M W (.Raise (some (.Call (.Name x p) [.Constant (.str m) j p2] [] pos)) none pos2) (raiseF k) := by
  refine ps_imp (ps_raise hc tk (pmk_own PySem.F.excBase_ValueError C.ex hm C.kp (raises_own C.sb C.ty) hg hdb)) fun D σ H h => ?_
  obtain ⟨env, z, rfl, kz, v, h⟩ := h
  exact h z σ _ _ rfl (Ext.refl z) kz v ⟨k, [], [], rfl, rfl, .inl ⟨rfl, rfl⟩, .nil⟩
end
end Sm
namespace Sm
open PySem PySem.Spec PyProof.Rows L2
structure SubOk (K : PySem.W.Frag) (M : Lm) (sub : Nat → Nat → Option Bool) : Prop where
  kit : ∀ k j b, sub k j = some b → PySem.W.kitOne K (.ref (M.cls k)) (.ref (M.cls j)) = some b
  exm : ∀ k j b, sub k j = some b → PySem.W.exmOne K (.ref (M.cls k)) (.ref (M.cls j)) = some b
  exc : ∀ k j b, sub k j = some b → ExcC K (M.cls k)
  ve : ∀ k j b, sub k j = some b → PySem.W.kitOne K (.ref (M.cls k)) (.type "ValueError") = some true
section
variable {X : Cx} {M : Lm} {W : WX}
theorem ExcC.kit {K : PySem.W.Frag} {D x : Addr} {od : Option Obj} {ox : Obj} (E : ExcC K D) : PySem.W.KitX K (.ref x) (.ref D) (fun h => PySem.W.InstAt h x ox D od) :=
  PySem.W.kitx_exc (by obtain ⟨cd, hc, _⟩ := PySem.W.any_some E.hd; rw [hc]; rfl) E.hg E.hk E.hs E.ha E.hn E.ht E.hm
def subAny (sub : Nat → Nat → Option Bool) (k : Nat) : List D → Option Bool
  | [] => some false
  | .cls j :: r => match sub k j, subAny sub k r with
    | some b, some c => some (b || c)
    | _, _ => none
  | _ => none
def isiX (sub : Nat → Nat → Option Bool) : Fn := fun as S => match as with
  | [.exc k _, .cls j] => (match sub k j with
    | some b => .ok (.bl b) S
    | none => .bad)
  | [.exc k _, .tup cs] => (match sub k k, subAny sub k cs with
    | some _, some b => .ok (.bl b) S
    | _, _ => .bad)
  | [.exc k _, .ty .verr] => (match sub k k with
    | some _ => .ok (.bl true) S
    | none => .bad)
  | as => isiM as S
end
structure XcK (K : PySem.W.Frag) (C : Addr) (cd : ClassData) : Prop where
  cl : PySem.W.clsIn K C = some cd
  ty : PySem.W.typeIn K (.ref C) = some (.type "type")
theorem sub_in {K : PySem.W.Frag} {C : Addr} {cd : ClassData} (h : PySem.W.clsIn K C = some cd) (n : cd.mro.isEmpty = false) (u : Value) : PySem.W.subIn K (.ref C) u = some (cd.mro.contains u) := by
  show PySem.W.mroIn K C u = _
  unfold PySem.W.mroIn
  rw [h, Option.bind_some, if_neg (by rw [n]; exact Bool.false_ne_true)]
theorem sub_of {K : PySem.W.Frag} {M : Lm} {sub : Nat → Nat → Option Bool} {cds : Nat → ClassData} (hc : ∀ k j b, sub k j = some b → PySem.W.clsIn K (M.cls k) = some (cds k) ∧ (cds k).mro.isEmpty = false ∧ ExcC K (M.cls k) ∧ (cds k).mro.contains (.type "ValueError") = true ∧ (cds k).mro.contains (.ref (M.cls k)) = true)
    (hj : ∀ k j b, sub k j = some b → PySem.W.clsIn K (M.cls j) = some (cds j) ∧ PySem.W.typeIn K (.ref (M.cls j)) = some (.type "type") ∧ (cds j).mro.isEmpty = false ∧ (cds j).mro.contains (.type "BaseException") = true ∧ (cds k).mro.contains (.ref (M.cls j)) = b) : SubOk K M sub := by
  have cls : ∀ k j b, sub k j = some b → PySem.W.kitCls K (.ref (M.cls k)) (.ref (M.cls j)) = some b := fun k j b e => by
    obtain ⟨a1, a2, _⟩ := hc k j b e
    obtain ⟨b1, b2, b3, b4, b5⟩ := hj k j b e
    show (if ((PySem.W.clsIn K (M.cls j)).isSome && PySem.W.typeIn K (.ref (M.cls j)) == some (.type "type")) = true then PySem.W.subIn K (.ref (M.cls k)) (.ref (M.cls j)) else none) = some b
    rw [if_pos (by rw [b1, b2]; rfl), sub_in a1 a2, b5]
  refine ⟨fun k j b e => ?_, fun k j b e => ?_, fun k j b e => (hc k j b e).2.2.1, fun k j b e => ?_⟩
  · unfold PySem.W.kitOne
    by_cases q : (Value.ref (M.cls k) == Value.ref (M.cls j)) = true
    · rw [if_pos q]
      obtain ⟨a1, a2, a3, a4, a5⟩ := hc k j b e
      have b5 := (hj k j b e).2.2.2.2
      have ekj : Value.ref (M.cls k) = Value.ref (M.cls j) := by simpa using q
      rw [← ekj, a5] at b5
      rw [b5]
    · rw [if_neg q]
      exact cls k j b e
  · obtain ⟨b1, b2, b3, b4, b5⟩ := hj k j b e
    unfold PySem.W.exmOne
    rw [sub_in b1 b3, b4, if_pos (by rfl)]
    exact cls k j b e
  · obtain ⟨a1, a2, a3, a4, a5⟩ := hc k j b e
    unfold PySem.W.kitOne
    rw [if_neg (by simp)]
    unfold PySem.W.kitCls
    dsimp only
    rw [if_pos (by decide +kernel), sub_in a1 a2, a4]
end Sm
namespace Sm
open PySem PySem.Spec PyProof.Rows L2
theorem bb_len : bootBuiltins "len" = some (.builtin "len") := by decide +kernel
theorem bb_abs : bootBuiltins "abs" = some (.builtin "abs") := by decide +kernel
theorem bb_all : bootBuiltins "all" = some (.builtin "all") := by decide +kernel
theorem bb_sum : bootBuiltins "sum" = some (.builtin "sum") := by decide +kernel
theorem bb_repr : bootBuiltins "repr" = some (.builtin "repr") := by decide +kernel
theorem bb_isinstance : bootBuiltins "isinstance" = some (.builtin "isinstance") := by decide +kernel
theorem bb_max : bootBuiltins "max" = some (.builtin "max") := by decide +kernel
theorem bb_min : bootBuiltins "min" = some (.builtin "min") := by decide +kernel
theorem bb_sorted : bootBuiltins "sorted" = some (.builtin "sorted") := by decide +kernel
theorem bb_int : bootBuiltins "int" = some (.type "int") := by decide +kernel
theorem bb_str : bootBuiltins "str" = some (.type "str") := by decide +kernel
theorem bb_tuple : bootBuiltins "tuple" = some (.type "tuple") := by decide +kernel
theorem bb_bool : bootBuiltins "bool" = some (.type "bool") := by decide +kernel
end Sm
namespace Sm
open PySem PySem.Spec PyProof.Rows L2
def Mof (Cs : List Addr) (T : List (Addr × Str)) (A : Bool := false) : Lm := { cls := fun k => Cs.getD k 0, fld := fun _ => [], tabs := T, arr := A }
def subBy (tab : List (Nat × List Bool)) (k j : Nat) : Option Bool := (tab.lookup k).bind fun r => r[j]?
structure ClK (K : PySem.W.Frag) (C : Addr) : Prop where
  ex : ∃ cd, PySem.W.clsIn K C = some cd ∧ PySem.W.typeIn K (.ref C) = some (.type "type") ∧ cd.mro.isEmpty = false ∧ cd.mro.contains (.type "BaseException") = true
structure RowK (K : PySem.W.Frag) (Cs : List Addr) (k : Nat) (row : List Bool) : Prop where
  ex : ∃ C cd, Cs[k]? = some C ∧ PySem.W.clsIn K C = some cd ∧ cd.mro.isEmpty = false ∧ ExcC K C ∧ cd.mro.contains (.type "ValueError") = true ∧ cd.mro.contains (.ref C) = true ∧ Cs.map (fun D => cd.mro.contains (.ref D)) = row
theorem mof_at {Cs : List Addr} {T : List (Addr × Str)} {A : Bool} {k : Nat} {C : Addr} (h : Cs[k]? = some C) : (Mof Cs T A).cls k = C := by
  show Cs.getD k 0 = C
  rw [List.getD_eq_getElem?_getD, h]
  rfl
theorem lookup_mem {tab : List (Nat × List Bool)} {k : Nat} {r : List Bool} (h : tab.lookup k = some r) : (k, r) ∈ tab := by
  induction tab with
  | nil => cases h
  | cons p t ih =>
    obtain ⟨a, b⟩ := p
    by_cases c : (k == a) = true
    · rw [List.lookup_cons, c] at h
      have e : k = a := by simpa using c
      cases h
      rw [e]
      exact List.mem_cons_self ..
    · rw [List.lookup_cons, Bool.eq_false_iff.mpr c] at h
      exact List.mem_cons_of_mem _ (ih h)
theorem sub_mk {K : PySem.W.Frag} {Cs : List Addr} {T : List (Addr × Str)} {A : Bool} {tab : List (Nat × List Bool)} (hall : ∀ C ∈ Cs, ClK K C) (hrows : ∀ p ∈ tab, RowK K Cs p.1 p.2) : SubOk K (Mof Cs T A) (subBy tab) := by
  have row : ∀ k j b, subBy tab k j = some b → ∃ r, RowK K Cs k r ∧ r[j]? = some b := fun k j b e => by
    unfold subBy at e
    cases q : tab.lookup k with
    | none =>
      rw [q] at e
      cases e
    | some r =>
      rw [q] at e
      exact ⟨r, hrows _ (lookup_mem q), e⟩
  refine sub_of (cds := fun k => ((PySem.W.clsIn K ((Mof Cs T A).cls k)).getD default)) (fun k j b e => ?_) fun k j b e => ?_
  · obtain ⟨r, ⟨C, cd, h1, h2, h3, h4, h5, h6, h7⟩, _⟩ := row k j b e
    rw [mof_at (T := T) h1, h2]
    exact ⟨rfl, h3, h4, h5, h6⟩
  · obtain ⟨r, ⟨C, cd, h1, h2, h3, h4, h5, h6, h7⟩, hj⟩ := row k j b e
    rw [← h7, List.getElem?_map] at hj
    cases q : Cs[j]? with
    | none =>
      rw [q] at hj
      cases hj
    | some D =>
      rw [q] at hj
      obtain ⟨cj, a1, a2, a3, a4⟩ := (hall D (List.mem_of_getElem? q)).ex
      rw [mof_at (T := T) q, mof_at (T := T) h1, a1, h2]
      exact ⟨rfl, a2, a3, a4, Option.some.inj hj⟩
theorem all_cl {K : PySem.W.Frag} {C : Addr} {Cs : List Addr} (h : ClK K C) (t : ∀ D ∈ Cs, ClK K D) : ∀ D ∈ C :: Cs, ClK K D := fun D hD => by
  rcases List.mem_cons.mp hD with e | e
  · rw [e]
    exact h
  · exact t D e
theorem all_cl0 {K : PySem.W.Frag} : ∀ D ∈ ([] : List Addr), ClK K D := fun _ h => by cases h
theorem all_row {K : PySem.W.Frag} {Cs : List Addr} {k : Nat} {r : List Bool} {tab : List (Nat × List Bool)} (h : RowK K Cs k r) (t : ∀ p ∈ tab, RowK K Cs p.1 p.2) : ∀ p ∈ (k, r) :: tab, RowK K Cs p.1 p.2 := fun p hp => by
  rcases List.mem_cons.mp hp with e | e
  · rw [e]
    exact h
  · exact t p e
theorem all_row0 {K : PySem.W.Frag} {Cs : List Addr} : ∀ p ∈ ([] : List (Nat × List Bool)), RowK K Cs p.1 p.2 := fun _ h => by cases h
end Sm
namespace Sm
open PySem PySem.Spec PyProof.Rows L2
section
variable {α β : Type} {S S1 : Sto} {P : α → Sto → Prop} {E : D → Sto → Prop} {N B C : Env → Sto → Prop} {T : D → Sto → Prop} {X : D → Env → Sto → Prop} {env : Env} {R : D → Sto → Prop}
theorem o_raise {k : Nat} (h : X (.exc k []) env S) : OKS (raiseF k env S) N B C T X := h
theorem e_isX {sub : Nat → Nat → Option Bool} {as : List D} {v : D} (e : isiX sub as S = .ok v S) (h : R v S) : OKR (isiX sub as S) R E := OKR.of_eq e h
theorem o_lcN {t : Tgt} {c : Env → Sto → Res Bool} {e : Env → Sto → Res D} {o : Option Ob} {Q : List D → Sto → Prop} (h : Q [] S) : OKR (lcL t c e none o env [] S) Q E := by
  unfold lcL
  exact h
theorem o_lcC {t : Tgt} {c : Env → Sto → Res Bool} {e : Env → Sto → Res D} {o : Option Ob} {d : D} {r : List D} {Q : List D → Sto → Prop} (h : ∃ env1, t.put d env = some env1 ∧ OKR (c env1 S) (fun b S1 => Br b (OKR (e env1 S1) (fun v S2 => OKR (frz1 v S2) (fun w S3 => OKR (lcL t c e none o env r S3) (fun l S4 => Q (w :: l) S4) E) fun _ _ => False) fun _ _ => False) (OKR (lcL t c e none o env r S1) Q E)) fun _ _ => False) :
    OKR (lcL t c e none o env (d :: r) S) Q E := by
  obtain ⟨env1, h1, h2⟩ := h
  unfold lcL
  simp only [h1]
  cases q1 : c env1 S with
  | ex d S1 =>
    rw [q1] at h2
    exact h2.elim
  | bad =>
    rw [q1] at h2
    exact h2.elim
  | ok b S1 =>
    rw [q1] at h2
    cases b with
    | false => exact h2.2 rfl
    | true =>
      have h3 := h2.1 rfl
      dsimp only
      cases q2 : e env1 S1 with
      | ex d S1 =>
        rw [q2] at h3
        exact h3.elim
      | bad =>
        rw [q2] at h3
        exact h3.elim
      | ok v S2 =>
        rw [q2] at h3
        dsimp only
        have h4 : OKR (frz1 v S2) (fun w S3 => OKR (lcL t c e none o env r S3) (fun l S4 => Q (w :: l) S4) E) fun _ _ => False := h3
        cases q3 : frz1 v S2 with
        | ex d S1 =>
          rw [q3] at h4
          exact h4.elim
        | bad =>
          rw [q3] at h4
          exact h4.elim
        | ok w S3 =>
          rw [q3] at h4
          exact o_bind (OKR.mono (show OKR (lcL t c e none o env r S3) (fun l S4 => Q (w :: l) S4) E from h4) (fun _ _ q => q) fun _ _ q => q)
theorem o_forN {t : Tgt} {b : Env → Sto → SR} {o : Option Ob} (h : N env S) : OKS (forL t b none o [] env S) N B C T X := by
  unfold forL
  exact h
theorem o_forC {t : Tgt} {b : Env → Sto → SR} {o : Option Ob} {d : D} {r : List D} (h : ∃ env1, t.put d env = some env1 ∧ OKS (b env1 S) (fun e S1 => OKS (forL t b none o r e S1) N B C T X) N (fun e S1 => OKS (forL t b none o r e S1) N B C T X) T X) : OKS (forL t b none o (d :: r) env S) N B C T X := by
  obtain ⟨env1, h1, h2⟩ := h
  unfold forL
  simp only [h1]
  cases q : b env1 S with
  | nx e S1 => rw [q] at h2; exact h2
  | rt e S1 => rw [q] at h2; exact h2
  | bk e S1 => rw [q] at h2; exact h2
  | ct e S1 => rw [q] at h2; exact h2
  | ex d e S1 => rw [q] at h2; exact h2
  | bad => rw [q] at h2; exact h2
end
theorem ten_two (a : Nat) : 10 ^ a ≤ 2 ^ (4 * a) := by
  rw [Nat.pow_mul]
  exact Nat.pow_le_pow_left (by decide) a
theorem cMulT {i j : Int} (a b : Nat) (ha : i.natAbs < 10 ^ a) (hb : j.natAbs < 10 ^ b) (h : 4 * a + 4 * b < 100000000) : cMul i j = true :=
  cMul_of (Nat.lt_of_lt_of_le ha (ten_two a)) (Nat.lt_of_lt_of_le hb (ten_two b)) h
section
variable {S : Sto} {E : D → Sto → Prop} {R : D → Sto → Prop}
theorem take_all : S.take S.length = S := List.take_of_length_le (Nat.le_refl _)
theorem o_finS {d : D} (e : nr d = true) (h : R d S) : OKR (if true = true then fin S.length d S else .ok d S) R E := o_fin e (by
  rw [take_all]
  exact h)
theorem o_abs {i : Int} (h : R (.int i.natAbs) S) : OKR (absM [.int i] S) R E := by
  have e : (if i < 0 then -i else i) = (i.natAbs : Int) := by
    split <;> omega
  show R (.int (if i < 0 then -i else i)) S
  rw [e]
  exact h
theorem nat_fmod (x y : Nat) : (x : Int).fmod (y : Int) = ((x % y : Nat) : Int) := by
  rw [Int.fmod_eq_emod_of_nonneg _ (Int.natCast_nonneg _)]
  rfl
theorem fuel_ok {k : Nat} (h : k < 10 ^ 3990) : k < FUEL := by
  unfold FUEL
  exact Nat.lt_of_lt_of_le h (Nat.pow_le_pow_right (n := 10) (i := 3990) (j := 4000) (show 0 < 10 by decide) (show 3990 ≤ 4000 by decide))
theorem o_addL {a b : List D} (h : a.length + b.length ≤ LINE) (hq : R (.lst (a ++ b)) S) : OKR (addD (.lst a) (.lst b) S) R E := by
  show OKR (if a.length + b.length ≤ LINE then Res.ok (D.lst (a ++ b)) S else .bad) R E
  rw [if_pos h]
  exact hq
end
theorem rangeL_mem : ∀ (k : Nat) (lo : Int), ∀ d ∈ rangeL lo k, ∃ i, d = .int i ∧ lo ≤ i ∧ i < lo + k
  | 0, _, d, h => by cases h
  | k + 1, lo, d, h => by
    rcases List.mem_cons.mp h with rfl | h
    · exact ⟨_, rfl, by omega, by omega⟩
    · obtain ⟨i, h1, h2, h3⟩ := rangeL_mem k (lo + 1) d h
      exact ⟨i, h1, by omega, by omega⟩
theorem res_true {r : Res D} (q : ∃ v S, r = .ok v S ∧ v = .bl true) : ∃ S', r = .ok (.bl true) S' := q.elim fun v hv => hv.elim fun S' q => ⟨S', q.2 ▸ q.1⟩
end Sm
namespace Sm
open PySem PySem.Spec PyProof.Rows L2
def evalFs : List (Env → Sto → Res D) → Env → Sto → Option (List D × Sto)
  | [], _, S => some ([], S)
  | f :: fs, env, S => match f env S with
    | .ok d S1 => (evalFs fs env S1).map fun p => (d :: p.1, p.2)
    | _ => none
def zipP : List (List Nat) → List D → List (D × D)
  | s :: ss, d :: ds => (.str s, d) :: zipP ss ds
  | _, _ => []
def dispR (ss : List (List Nat)) (fs : List (Env → Sto → Res D)) : Env → Sto → Res (List (D × D)) := fun env S => match evalFs fs env S with
  | none => .bad
  | some p => (frzL p.1 p.2).bind fun l S2 => if ss.Nodup ∧ ss.length ≤ 15 ∧ ss.length = fs.length ∧ l.length = ss.length ∧ ss ≠ [] then .ok (zipP ss l) S2 else .bad
def dispO (ss : List (List Nat)) (fs : List (Env → Sto → Res D)) : Env → Sto → Res D := fun env S => (dispR ss fs env S).bind fun l S1 => .ok (.ref S1.length) (S1 ++ [.dic false l])
def dispF (ss : List (List Nat)) (fs : List (Env → Sto → Res D)) : Env → Sto → Res D := fun env S => (dispR ss fs env S).bind fun l S1 => .ok (.dic l) S1
section
variable {X : Cx} {M : Lm} {W : WX} {K : PySem.W.Frag}
inductive SDs (X : Cx) (M : Lm) : List (Option Expr) → List Expr → List (List Nat) → List (Env → Sto → Res D) → Prop
  | nil : SDs X M [] [] [] []
  | cons {x : Str} {j : Nat} {p : Pos} {v : Expr} {ks : List (Option Expr)} {vs : List Expr} {s : List Nat} {f : Env → Sto → Res D} {ss : List (List Nat)} {fs : List (Env → Sto → Res D)} (e : x = toS s) (h : SE X M W0 v f) (t : SDs X M ks vs ss fs) :
      SDs X M (some (.Constant (.str x) j p) :: ks) (v :: vs) (s :: ss) (f :: fs)
theorem sd_cons (s : List Nat) {x : Str} {j : Nat} {p : Pos} {v : Expr} {ks : List (Option Expr)} {vs : List Expr} {f : Env → Sto → Res D} {ss : List (List Nat)} {fs : List (Env → Sto → Res D)} (h : SE X M W0 v f) (t : SDs X M ks vs ss fs) (e : x = toS s := by decide +kernel) :
    SDs X M (some (.Constant (.str x) j p) :: ks) (v :: vs) (s :: ss) (f :: fs) := .cons e h t
def trsOf (K : PySem.W.Frag) (M : Lm) : List (List Nat) → List (Env → Sto → Res D) → List (TE × TE)
  | s :: ss, f :: fs => (tC (.str (toS s)), tE K M W0 f) :: trsOf K M ss fs
  | _, _ => []
theorem sds_pps {pos : Pos} {ks : List (Option Expr)} {vs : List Expr} {ss : List (List Nat)} {fs : List (Env → Sto → Res D)} (h : SDs X M ks vs ss fs) : PPs X pos ks vs (trsOf X.K M ss fs) := by
  induction h with
  | nil => exact pps_nil
  | cons e h t ih =>
    subst e
    exact pps_cons pe_str h ih
theorem sds_len {ks : List (Option Expr)} {vs : List Expr} {ss : List (List Nat)} {fs : List (Env → Sto → Res D)} (h : SDs X M ks vs ss fs) : ks.length = ss.length ∧ vs.length = ss.length ∧ ks.all (·.isSome) = true := by
  induction h with
  | nil => exact ⟨rfl, rfl, rfl⟩
  | cons e h t ih =>
    refine ⟨?_, ?_, ?_⟩
    · rw [List.length_cons, List.length_cons, ih.1]
    · rw [List.length_cons, List.length_cons, ih.2.1]
    · rw [List.all_cons, ih.2.2]
      rfl
def zipV : List (List Nat) → List V → List (V × V)
  | s :: ss, v :: vs => (.str (toS s), v) :: zipV ss vs
  | _, _ => []
def zipK : List (List Nat) → List V → List (Key × V)
  | s :: ss, v :: vs => (.inr (toS s), v) :: zipK ss vs
  | _, _ => []
theorem zipV_K : ∀ (ss : List (List Nat)) (vs : List V), zipV ss vs = (zipK ss vs).map fun kv => (kV kv.1, kv.2)
  | [], _ => by cases ‹List V› <;> rfl
  | _ :: _, [] => rfl
  | s :: ss, v :: vs => by
    show _ :: _ = _ :: _
    rw [zipV_K ss vs]
    rfl
theorem zipK_len : ∀ (ss : List (List Nat)) (vs : List V), (zipK ss vs).length ≤ ss.length
  | [], vs => by cases vs <;> exact Nat.zero_le _
  | _ :: _, [] => Nat.zero_le _
  | s :: ss, v :: vs => Nat.succ_le_succ (zipK_len ss vs)
theorem zipP_enc {H : Hp} {ow : Addr → Prop} : ∀ {ss : List (List Nat)} {l : List D} {vs : List V}, EncL K M H ow l vs → EncP K M H ow (zipP ss l) (zipK ss vs)
  | [], l, vs, h => by
    cases h <;> exact .nil
  | s :: ss, [], _, .nil => .nil
  | s :: ss, d :: l, _, .cons h t => .cons rfl h (zipP_enc t)
theorem merge_nd : ∀ (ss : List (List Nat)) (vs : List V) (acc : List (Key × V)), ss.Nodup → (∀ kv ∈ acc, ∀ s ∈ ss, kv.1 ≠ .inr (toS s)) → mergeK acc (zipK ss vs) = acc ++ zipK ss vs
  | [], vs, acc, _, _ => by
    cases vs <;> exact (List.append_nil _).symm
  | _ :: _, [], acc, _, _ => (List.append_nil _).symm
  | s :: ss, v :: vs, acc, nd, hn => by
    show mergeK (putK acc (.inr (toS s)) v) (zipK ss vs) = acc ++ (_ :: zipK ss vs)
    have e : putK acc (.inr (toS s)) v = acc ++ [(.inr (toS s), v)] := by
      unfold putK
      rw [if_neg]
      intro q
      obtain ⟨kv, h1, h2⟩ := List.any_eq_true.mp q
      exact hn kv h1 s (List.mem_cons_self ..) (of_decide_eq_true h2)
    rw [e, merge_nd ss vs _ (List.nodup_cons.mp nd).2, List.append_assoc]
    · rfl
    · intro kv hk s2 hs2 q
      rcases List.mem_append.mp hk with hk | hk
      · exact hn kv hk s2 (List.mem_cons_of_mem _ hs2) q
      · have hk := List.mem_singleton.mp hk
        subst hk
        injection q with q
        have e2 : s = s2 := congrArg (fun z : Str => z.cps.toList) q
        exact (List.nodup_cons.mp nd).1 (e2 ▸ hs2)
theorem pairs_ok {p : Addr} {z : Sg} {env : Env} {σ : L2.St} : ∀ (ss : List (List Nat)) (fs : List (Env → Sto → Res D)) (zc : Sg) (ds : List D) (S' : Sto) (Q' : List (V × V) → Hp → Prop), SOk K M zc → GX p z zc → EnvOk K M zc env σ → ss.length = fs.length → evalFs fs env zc.S = some (ds, S') →
    (∀ z' vs, z'.S = S' → SOk K M z' → Ext zc z' → EncAs K M z' ds vs → Q' (zipV ss vs) z'.H) → tPairs (trsOf K M ss fs) σ zc.H Q'
  | [], [], zc, ds, S', Q', kc, gx, v, _, e, h => by
    cases e
    exact h zc [] rfl kc (Ext.refl _) .nil
  | [], _ :: _, _, _, _, _, _, _, _, e, _, _ => by cases e
  | _ :: _, [], _, _, _, _, _, _, _, e, _, _ => by cases e
  | s :: ss, f :: fs, zc, ds, S', Q', kc, gx, v, hl, e, h => by
    unfold evalFs at e
    cases r : f env zc.S with
    | ex a S =>
      rw [r] at e
      cases e
    | bad =>
      rw [r] at e
      cases e
    | ok d S1 =>
      rw [r] at e
      dsimp only at e
      cases r2 : evalFs fs env S1 with
      | none =>
        rw [r2] at e
        cases e
      | some pr =>
        rw [r2] at e
        cases e
        show tE K M W0 f σ zc.H fun y H2 => tPairs (trsOf K M ss fs) σ H2 fun ps H3 => Q' ((.str (toS s), y) :: ps) H3
        refine ⟨env, zc, rfl, kc, v, ?_⟩
        rw [r]
        intro z1 y e1 x1 k1 q1
        subst e1
        refine pairs_ok ss fs z1 pr.1 pr.2 _ k1 (gx.step x1) (v.ext x1) (Nat.succ.inj hl) r2 fun z' vs e2 k2 x2 q2 => ?_
        exact h z' (y :: vs) e2 k2 (x1.trans x2) (.cons (q1.ext x2) q2)
theorem tdisp_of {ss : List (List Nat)} {fs : List (Env → Sto → Res D)} {fin : List (D × D) → Sto → Res D} {σ : L2.St} {H : Hp} {Q : VK}
    (hfin : ∀ (p : Addr) (z zc : Sg) (l : List (D × D)) (kvs : List (Key × V)), z.H p = none → SOk K M z → SOk K M zc → GX p z zc → zc.H p = some (.dK kvs) → EncP K M zc.H zc.ow l kvs → Out K M (EncA K M) W σ z Q (fin l zc.S) → Q (.ref p) zc.H)
    (h : tE K M W (fun env S => (dispR ss fs env S).bind fin) σ H Q) : tDisp (trsOf K M ss fs) σ H Q := by
  obtain ⟨env, z, rfl, k, v, h⟩ := h
  intro p np
  dsimp only at h
  unfold dispR at h
  cases r : evalFs fs env z.S with
  | none =>
    rw [r] at h
    exact h.elim
  | some pr =>
    rw [r] at h
    dsimp only at h
    cases r2 : frzL pr.1 pr.2 with
    | ex a S => exact absurd r2 frzL_nex
    | bad =>
      rw [r2] at h
      exact h.elim
    | ok l S2 =>
      rw [r2] at h
      have h : Out K M (EncA K M) W σ z Q ((if ss.Nodup ∧ ss.length ≤ 15 ∧ ss.length = fs.length ∧ l.length = ss.length ∧ ss ≠ [] then Res.ok (zipP ss l) S2 else .bad).bind fin) := h
      by_cases c : ss.Nodup ∧ ss.length ≤ 15 ∧ ss.length = fs.length ∧ l.length = ss.length ∧ ss ≠ []
      rotate_left
      · rw [if_neg c] at h
        exact h.elim
      rw [if_pos c] at h
      obtain ⟨nd, c15, cl, _, _⟩ := c
      have k0 := sok_mk1 (p := p) (o := .dK []) (.inr ⟨_, rfl⟩) np k
      have g0 := gx_start (p := p) (o := .dK []) np k
      refine pairs_ok ss fs (z.mk1 p (.dK [])) pr.1 pr.2 _ k0 g0 (v.mvR g0.mv g0.wk.pre g0.wk.grow) cl r fun z1 vs e1 k1 x1 q1 => ?_
      have g1 := g0.step x1
      subst_vars
      rw [← e1] at r2
      obtain ⟨z2, eH, eS, x2, k2, q2⟩ := frzL_ok k1 q1 r2
      have g2 := g1.step x2
      have hp1 : z1.H p = some (.dK []) := (x1.gk p (List.mem_cons_self ..)).trans upd_same
      refine ⟨hp1, zipK ss vs, zipV_K ss vs, Nat.le_trans (zipK_len ss vs) c15, ?_⟩
      rw [merge_nd ss vs [] nd (fun _ hk => by cases hk), List.nil_append, ← eH]
      have hpG : p ∈ z2.G := by
        rw [g2.gh]
        exact List.mem_cons_self ..
      have ek : EncL K M (z2.wr1 p (.dK (zipK ss vs))).H (z2.wr1 p (.dK (zipK ss vs))).ow l vs := q2.mv (mv_wr1 hpG k2)
      refine hfin p z (z2.wr1 p (.dK (zipK ss vs))) (zipP ss l) (zipK ss vs) np k (sok_wr1 (.inr ⟨_, rfl⟩) hpG k2) (g2.wr np k k2) upd_same (zipP_enc ek) ?_
      show Out K M (EncA K M) W σ z Q (fin (zipP ss l) z2.S)
      rw [eS]
      exact h
theorem fin_dic {Q : VK} {σ : L2.St} (p : Addr) (z zc : Sg) (l : List (D × D)) (kvs : List (Key × V)) (np : z.H p = none) (k : SOk K M z) (kc : SOk K M zc) (gx : GX p z zc) (hp : zc.H p = some (.dK kvs)) (hl : EncP K M zc.H zc.ow l kvs) (h : Out K M (EncA K M) W σ z Q (Res.ok (.dic l) zc.S)) : Q (.ref p) zc.H :=
  h (zc.done z.G) (.ref p) rfl gx.ext (gx.sok kc) (.of (.dic hp (gx.now np k kc) (hl.mv gx.less)))
theorem s_dispF {keys : List (Option Expr)} {values : List Expr} {pos : Pos} {ss : List (List Nat)} {fs : List (Env → Sto → Res D)} (h : SDs X M keys values ss fs) (h0 : keys ≠ [] := by exact fun z => nomatch z) (h15 : keys.length ≤ 15 := by decide) : SE X M W (.Dict keys values pos) (dispF ss fs) :=
  pe_imp (pe_disp (sds_pps h) (sds_len h).2.2 ((sds_len h).1.trans (sds_len h).2.1.symm) h0 h15) fun _ _ _ q => tdisp_of fin_dic q
end
end Sm
namespace Sm
open PySem PySem.Spec PyProof.Rows L2
def lookM : List (List Nat × D) → List Nat → Option D
  | [], _ => none
  | (k, d) :: l, s => if s = k then some d else lookM l s
inductive KdE (K : PySem.W.Frag) : List DictEntry → List (List Nat × D) → Prop
  | nil : KdE K [] []
  | cons {e : DictEntry} {es : List DictEntry} {s : List Nat} {d : D} {l : List (List Nat × D)} (hk : e.key.isStr (toS s) = true) (hv : kcB K d e.val = true) (t : KdE K es l) : KdE K (e :: es) ((s, d) :: l)
structure Kdc (K : PySem.W.Frag) (w : World) (mg : Str → Option Value) (x : Str) (l : List (List Nat × D)) : Prop where
  ex : ∃ (a : Addr) (es : Array DictEntry) (n : Nat), mg x = some (.ref a) ∧ KDict K w a es n ∧ KdE K es.toList l
theorem isStr_toS {v : Value} {s t : List Nat} (h : v.isStr (toS s) = true) : v.isStr (toS t) = decide (t = s) := by
  cases v with
  | str y tk =>
    have e : y = toS s := by
      have h' : (y == toS s) = true := h
      simpa using h'
    subst e
    show ((toS s) == toS t) = decide (t = s)
    have := str_eq s t
    rw [show (toS s == toS t) = (s == t) from this]
    by_cases c : t = s
    · rw [c, decide_eq_true rfl]
      simp
    · rw [decide_eq_false c]
      simp
      exact fun z => c z.symm
  | _ => cases h
theorem find_kd {K : PySem.W.Frag} {es : List DictEntry} {l : List (List Nat × D)} (h : KdE K es l) (s : List Nat) : (∀ d, lookM l s = some d → ∃ e, es.find? (·.key.isStr (toS s)) = some e ∧ kcB K d e.val = true) ∧ (lookM l s = none → es.find? (·.key.isStr (toS s)) = none) ∧ es.any (·.refKey) = false := by
  induction h with
  | nil => exact ⟨fun d e => (by cases e), fun _ => rfl, rfl⟩
  | @cons e es k d l hk hv t ih =>
    obtain ⟨i1, i2, i3⟩ := ih
    have q := isStr_toS (t := s) hk
    have nr : e.refKey = false := by
      obtain ⟨eh, ek, ev⟩ := e
      cases ek with
      | str y tk => rfl
      | _ => cases hk
    unfold lookM
    by_cases c : s = k
    · rw [if_pos c]
      rw [decide_eq_true c] at q
      refine ⟨fun d' e' => ?_, fun e' => (by cases e'), ?_⟩
      · cases e'
        exact ⟨e, by rw [List.find?_cons, q], hv⟩
      · rw [List.any_cons, nr, i3]
        rfl
    · rw [if_neg c]
      rw [decide_eq_false c] at q
      refine ⟨fun d' e' => ?_, fun e' => ?_, ?_⟩
      · rw [List.find?_cons, q]
        exact i1 d' e'
      · rw [List.find?_cons, q]
        exact i2 e'
      · rw [List.any_cons, nr, i3]
        rfl
theorem ns_kd {K : PySem.W.Frag} {w : World} {a : Addr} {es : Array DictEntry} {n : Nat} {l : List (List Nat × D)} (k : KDict K w a es n) (h : KdE K es.toList l) (s : List Nat) : (∀ d, lookM l s = some d → ∃ u, PySem.W.nsIn K a (toS s) = some (some u) ∧ kcB K d u = true) ∧ (lookM l s = none → PySem.W.nsIn K a (toS s) = some none) := by
  obtain ⟨i1, i2, i3⟩ := find_kd h s
  have e : PySem.W.nsIn K a (toS s) = (match es.toList.find? (·.key.isStr (toS s)) with
      | some e => some (some e.val)
      | none => if es.toList.any (·.refKey) then none else some none) := by
    unfold PySem.W.nsIn
    rw [k.at_]
    rfl
  refine ⟨fun d q => ?_, fun q => ?_⟩
  · obtain ⟨en, e1, e2⟩ := i1 d q
    refine ⟨en.val, ?_, e2⟩
    rw [e, e1]
  · rw [e, i2 q, i3]
    rfl
def mdIn (l : List (List Nat × D)) (neg : Bool) (f : Env → Sto → Res D) : Env → Sto → Res D := fun env S => (f env S).bind fun d S1 => match d with
  | .str s => .ok (.bl (if neg then !(lookM l s).isSome else (lookM l s).isSome)) S1
  | _ => .bad
def mdIx (l : List (List Nat × D)) (f : Env → Sto → Res D) : Env → Sto → Res D := fun env S => (f env S).bind fun d S1 => match d with
  | .str s => (match lookM l s with
    | some d => .ok d S1
    | none => .bad)
  | _ => .bad
section
variable {X : Cx} {M : Lm} {W : WX}
theorem mdin_of {l : List (List Nat × D)} {neg : Bool} {f : Env → Sto → Res D} {a : Addr} {es : Array DictEntry} {n : Nat} {σ : L2.St} {H : Hp} {Q : VK} (k : KDict X.K X.w a es n) (hl : KdE X.K es.toList l) (h : tE X.K M W (mdIn l neg f) σ H Q) :
    tOp (fun x y H Q => ∃ (z : Str) (r : Option Value), x = .str z ∧ y = .ref a ∧ PySem.W.nsIn X.K a z = some r ∧ Q (.bl (if neg then !r.isSome else r.isSome)) H) (tE X.K M W f) (tC (.ref a)) σ H Q := by
  obtain ⟨env, z, rfl, kz, v, h⟩ := h
  refine ⟨env, z, rfl, kz, v, (Out.bind h).imp fun b H1 q => ?_⟩
  obtain ⟨d, z1, rfl, _, x1, k1, q1, h1⟩ := q
  cases d with
  | str s =>
    obtain ⟨i1, i2⟩ := ns_kd k hl s
    have h1' : Out X.K M (EncA X.K M) W σ z1 Q (.ok (.bl (if neg then !(lookM l s).isSome else (lookM l s).isSome)) z1.S) := h1
    cases r : lookM l s with
    | none =>
      rw [r] at h1'
      exact ⟨_, none, encA_str q1, rfl, i2 r, out_bl k1 h1'⟩
    | some d =>
      rw [r] at h1'
      obtain ⟨u, e1, _⟩ := i1 d r
      exact ⟨_, some u, encA_str q1, rfl, e1, out_bl k1 h1'⟩
  | _ => exact h1.elim
theorem s_mdIn {x : Str} {l : List (List Nat × D)} {e : Expr} {p pos : Pos} {f : Env → Sto → Res D} (C : Kdc X.K X.w X.mg x l) (he : SE X M W e f) (hg : Gl X x := by rfl) (hd : (x == ("__debug__" : Str)) = false := by decide) : SE X M W (.Compare e [.In] [.Name x p] pos) (mdIn l false f) := by
  obtain ⟨a, es, n, hm, k, hl⟩ := C.ex
  exact pe_imp (pe_cmpR (op_in_kd k) he (pe_glob (v := .ref a) hg hm rfl hd) rfl) fun _ _ _ h => mdin_of k hl h
theorem s_mdIx {x : Str} {l : List (List Nat × D)} {e : Expr} {p pos : Pos} {f : Env → Sto → Res D} (C : Kdc X.K X.w X.mg x l) (he : SE X M W e f) (hg : Gl X x := by rfl) (hd : (x == ("__debug__" : Str)) = false := by decide) (hs : PlainIx e := by exact fun _ _ => rfl) : SE X M W (.Subscript (.Name x p) e pos) (mdIx l f) := by
  obtain ⟨a, es, n, hm, k, hl⟩ := C.ex
  refine pe_imp (pe_ix ix_kdict (pe_glob (v := .ref a) hg hm rfl hd) he hs) fun σ H Q h => ?_
  obtain ⟨env, z, rfl, kz, v, h⟩ := h
  refine ⟨env, z, rfl, kz, v, (Out.bind h).imp fun b H1 q => ?_⟩
  obtain ⟨d, z1, rfl, _, x1, k1, q1, h1⟩ := q
  cases d with
  | str s =>
    obtain ⟨i1, i2⟩ := ns_kd k hl s
    have h1' : Out X.K M (EncA X.K M) W σ z1 Q (match lookM l s with
      | some d => .ok d z1.S
      | none => .bad) := h1
    cases r : lookM l s with
    | none =>
      rw [r] at h1'
      exact h1'.elim
    | some d =>
      rw [r] at h1'
      obtain ⟨u, e1, e2⟩ := i1 d r
      obtain ⟨v, rv, en⟩ := kcB_ok (M := M) d u e2
      exact ⟨a, toS s, v, rfl, encA_str q1, ⟨es, n, u, k.at_, k.lit, e1, rv⟩, h1' z1 v rfl (Ext.refl z1) k1 (.of (en _ _))⟩
  | _ => exact h1.elim
end
theorem Kdc.mk' {K : PySem.W.Frag} {w : World} {mg : Str → Option Value} {h : Heap} {x : Str} {l : List (List Nat × D)} {a : Addr} {es : Array DictEntry} {n : Nat} (X : K.In h) (G : h.Ns mainGlobals mg) (e : PySem.W.nsIn K mainGlobals x = some (some (.ref a)))
    (hl : K.lookup a = some ⟨.type "dict", none, .dict es n, #[]⟩) (hk : PySem.W.KeysLit w.params es.toList) (low : (a == sysModules) = false) (he : KdE K es.toList l) : Kdc K w mg x l := ⟨a, es, n, PySem.W.mg_of X G e, ⟨hl, hk, low⟩, he⟩
section
variable {S : Sto} {E : D → Sto → Prop} {R : D → Sto → Prop} {env : Env} {f : Env → Sto → Res D}
theorem o_mdIn {l : List (List Nat × D)} {neg : Bool} (h : OKR (f env S) (fun d S1 => ∃ s, d = .str s ∧ R (.bl (if neg then !(lookM l s).isSome else (lookM l s).isSome)) S1) E) : OKR (mdIn l neg f env S) R E := o_bind (h.mono (fun _ _ q => by
  obtain ⟨s, rfl, q⟩ := q
  exact q) fun _ _ q => q)
theorem o_mdIx {l : List (List Nat × D)} (h : OKR (f env S) (fun d S1 => ∃ s x, d = .str s ∧ lookM l s = some x ∧ R x S1) E) : OKR (mdIx l f env S) R E := o_bind (h.mono (fun _ _ q => by
  obtain ⟨s, x, rfl, e, q⟩ := q
  show OKR (match lookM l s with
    | some d => .ok d _
    | none => .bad) R E
  rw [e]
  exact q) fun _ _ q => q)
theorem ex_str {s : List Nat} {A : List Nat → Prop} (h : A s) : ∃ t, D.str s = .str t ∧ A t := ⟨s, rfl, h⟩
theorem ex_md {l : List (List Nat × D)} {s : List Nat} {x : D} {A : D → Prop} (e : lookM l s = some x) (h : A x) : ∃ t x, D.str s = .str t ∧ lookM l t = some x ∧ A x := ⟨s, x, rfl, e, h⟩
theorem o_dispO {ss : List (List Nat)} {fs : List (Env → Sto → Res D)} (h : ∃ ds S1, evalFs fs env S = some (ds, S1) ∧ ds.all nr = true ∧ (ss.Nodup ∧ ss.length ≤ 15 ∧ ss.length = fs.length ∧ ds.length = ss.length ∧ ss ≠ []) ∧ R (.ref S1.length) (S1 ++ [.dic false (zipP ss ds)])) : OKR (dispO ss fs env S) R E := by
  obtain ⟨ds, S1, e, hn, c, q⟩ := h
  unfold dispO dispR
  rw [e]
  dsimp only
  rw [frzL_nr hn]
  show OKR ((if ss.Nodup ∧ ss.length ≤ 15 ∧ ss.length = fs.length ∧ ds.length = ss.length ∧ ss ≠ [] then Res.ok (zipP ss ds) S1 else .bad).bind _) R E
  rw [if_pos c]
  exact q
end
end Sm
namespace Sm
open PySem PySem.Spec PyProof.Rows L2
section
variable {X : Cx} {M : Lm} {W : WX}
end
section
variable {S : Sto} {E : D → Sto → Prop} {R : D → Sto → Prop}
theorem o_sum {d : D} {l : List D} {bs : List Int} (e : getL d S = some l) (e2 : allIn l = some bs) (h : R (.int bs.sum) S) : OKR (sumM [d] S) R E := by
  unfold sumM
  dsimp only
  rw [e]
  dsimp only
  rw [e2]
  exact h
end
section
variable {S : Sto} {E : D → Sto → Prop} {R : D → Sto → Prop} {env : Env}
def OKF : List (Env → Sto → Res D) → Env → Sto → (List D → Sto → Prop) → Prop
  | [], _, S, Q => Q [] S
  | f :: fs, env, S, Q => OKR (f env S) (fun d S1 => OKF fs env S1 fun ds S2 => Q (d :: ds) S2) fun _ _ => False
theorem okf_ev : ∀ (fs : List (Env → Sto → Res D)) (S : Sto) (Q : List D → Sto → Prop), OKF fs env S Q → ∃ ds S1, evalFs fs env S = some (ds, S1) ∧ Q ds S1
  | [], S, Q, h => ⟨[], S, rfl, h⟩
  | f :: fs, S, Q, h => by
    obtain ⟨d, S1, e, q⟩ := OKR.ok (show OKR (f env S) (fun d S1 => OKF fs env S1 fun ds S2 => Q (d :: ds) S2) fun _ _ => False from h)
    obtain ⟨ds, S2, e2, q2⟩ := okf_ev fs S1 _ q
    refine ⟨d :: ds, S2, ?_, q2⟩
    unfold evalFs
    rw [e]
    dsimp only
    rw [e2]
    rfl
theorem o_fN {Q : List D → Sto → Prop} (h : Q [] S) : OKF [] env S Q := h
theorem o_fC {f : Env → Sto → Res D} {fs : List (Env → Sto → Res D)} {Q : List D → Sto → Prop} (h : OKR (f env S) (fun d S1 => OKF fs env S1 fun ds S2 => Q (d :: ds) S2) fun _ _ => False) : OKF (f :: fs) env S Q := h
def dispC (ss : List (List Nat)) (fs : List (Env → Sto → Res D)) : Bool := decide (ss.Nodup) && (decide (ss.length ≤ 15) && (decide (ss.length = fs.length) && !ss.isEmpty))
theorem o_disp {ss : List (List Nat)} {fs : List (Env → Sto → Res D)} (c : dispC ss fs = true) (h : OKF fs env S fun ds S1 => (ds.all nr && decide (ds.length = ss.length)) = true ∧ R (.ref S1.length) (S1 ++ [.dic false (zipP ss ds)])) : OKR (dispO ss fs env S) R E := by
  obtain ⟨ds, S1, e, q1, q2⟩ := okf_ev fs S _ h
  unfold dispC at c
  rw [Bool.and_eq_true, Bool.and_eq_true, Bool.and_eq_true] at c
  rw [Bool.and_eq_true] at q1
  obtain ⟨c1, c2, c3, c4⟩ := c
  refine o_dispO ⟨ds, S1, e, q1.1, ⟨of_decide_eq_true c1, of_decide_eq_true c2, of_decide_eq_true c3, of_decide_eq_true q1.2, fun z => ?_⟩, q2⟩
  rw [z] at c4
  cases c4
theorem o_dispd {ss : List (List Nat)} {fs : List (Env → Sto → Res D)} (c : dispC ss fs = true) (h : OKF fs env S fun ds S1 => (ds.all nr && decide (ds.length = ss.length)) = true ∧ R (.dic (zipP ss ds)) S1) : OKR (dispF ss fs env S) R E := by
  obtain ⟨ds, S1, e, q1, q2⟩ := okf_ev fs S _ h
  unfold dispC at c
  rw [Bool.and_eq_true, Bool.and_eq_true, Bool.and_eq_true] at c
  rw [Bool.and_eq_true] at q1
  obtain ⟨c1, c2, c3, c4⟩ := c
  unfold dispF dispR
  rw [e]
  dsimp only
  rw [frzL_nr q1.1]
  show OKR ((if ss.Nodup ∧ ss.length ≤ 15 ∧ ss.length = fs.length ∧ ds.length = ss.length ∧ ss ≠ [] then Res.ok (zipP ss ds) S1 else .bad).bind _) R E
  rw [if_pos ⟨of_decide_eq_true c1, of_decide_eq_true c2, of_decide_eq_true c3, of_decide_eq_true q1.2, fun z => (by
    rw [z] at c4
    cases c4)⟩]
  exact q2
theorem and_b {b : Bool} {A : Prop} (e : b = true) (h : A) : b = true ∧ A := ⟨e, h⟩
theorem o_intI {i : Int} (h : R (.int i) S) : OKR (intM [.int i] S) R E := h
theorem o_intB {b : Bool} (h : R (.int (if b = true then 1 else 0)) S) : OKR (intM [.bl b] S) R E := h
theorem o_min2 {i j : Int} (h : R (.int (if j < i then j else i)) S) : OKR (min2M [.int i, .int j] S) R E := h
theorem o_max2 {i j : Int} (h : R (.int (if j > i then j else i)) S) : OKR (max2M [.int i, .int j] S) R E := h
end
end Sm
namespace Sm
open PySem PySem.Spec PyProof.Rows L2
structure Bare (M : Lm) : Prop where
  fn : M.fn = none
  caps : M.caps = []
  codes : M.codes = []
def Lm.lam (M : Lm) (f : Addr) (env : Env) (σ : St) (c : Addr) (q : Str) : Lm := { M with fn := some f, caps := [(env, σ)], codes := [(c, q)] }
section
variable {K : PySem.W.Frag} {M M' : Lm} {z z' : Sg} {H : Hp} {ow : Addr → Prop}
mutual
theorem Enc.re (h1 : M.cls = M'.cls) (h2 : M.fld = M'.fld) : ∀ {d : D} {v : V}, Enc K M H ow d v → Enc K M' H ow d v
  | _, _, .non => .non
  | _, _, .bl b => .bl b
  | _, _, .int i => .int i
  | _, _, .str s => .str s
  | _, _, .tup h n e => .tup h (n.imp id fun z => ⟨z.1, by rw [← h2]; exact z.2⟩) (EncL.re h1 h2 e)
  | _, _, .lst h e => .lst h (EncL.re h1 h2 e)
  | _, _, .dic h n e => .dic h n (EncP.re h1 h2 e)
  | _, _, .exc h n x e => .exc (by rw [← h1]; exact h) n (by unfold XFld at x ⊢; rw [← h2]; exact x) (EncL.re h1 h2 e)
  | _, _, .cls k => by
    rw [h1]
    exact .cls k
  | _, _, .ty t => .ty t
theorem EncL.re (h1 : M.cls = M'.cls) (h2 : M.fld = M'.fld) : ∀ {l : List D} {vs : List V}, EncL K M H ow l vs → EncL K M' H ow l vs
  | _, _, .nil => .nil
  | _, _, .cons h t => .cons (Enc.re h1 h2 h) (EncL.re h1 h2 t)
theorem EncP.re (h1 : M.cls = M'.cls) (h2 : M.fld = M'.fld) : ∀ {l : List (D × D)} {vs : List (Key × V)}, EncP K M H ow l vs → EncP K M' H ow l vs
  | _, _, .nil => .nil
  | _, _, .cons q h t => .cons q (Enc.re h1 h2 h) (EncP.re h1 h2 t)
end
theorem EncA.re (h1 : M.cls = M'.cls) (h2 : M.fld = M'.fld) (h3 : M.fn = none ∨ M'.fn = M.fn) {d : D} {v : V} (h : EncA K M z d v) : EncA K M' z d v := by
  cases h with
  | ref a b => exact .ref a b
  | of h => exact .of (h.re h1 h2)
  | fn e =>
    rcases h3 with q | q
    · rw [q] at e
      cases e
    · exact .fn (q.trans e)
theorem EncA.un (h1 : M.cls = M'.cls) (h2 : M.fld = M'.fld) {d : D} {v : V} (nf : d ≠ .fn) (h : EncA K M z d v) : EncA K M' z d v := by
  cases h with
  | ref a b => exact .ref a b
  | of h => exact .of (h.re h1 h2)
  | fn e => exact absurd rfl nf
theorem ObE.re (h1 : M.cls = M'.cls) (h2 : M.fld = M'.fld) (h3 : M.arr = M'.arr) {a : Addr} {o : Ob} (h : ObE K M z a o) : ObE K M' z a o := by
  cases o with
  | lst fz l =>
    obtain ⟨vs, q, e⟩ := h
    exact ⟨vs, q, e.re h1 h2⟩
  | dic fz l =>
    obtain ⟨vs, q, e⟩ := h
    exact ⟨vs, q, e.re h1 h2⟩
  | arr l =>
    obtain ⟨⟨ha, nf⟩, vs, q, e⟩ := h
    refine ⟨⟨h3 ▸ ha, nf⟩, vs, q, ?_⟩
    clear q
    induction e with
    | nil => exact .nil
    | cons a b ih => exact .cons (a.un h1 h2 (nf _ (List.mem_cons_self ..))) (ih fun d hd => nf d (List.mem_cons_of_mem _ hd))
  | dar ks l =>
    obtain ⟨⟨ha, nf, hl⟩, vs, q, e⟩ := h
    refine ⟨⟨h3 ▸ ha, nf, hl⟩, vs, q, ?_⟩
    clear q hl
    induction e with
    | nil => exact .nil
    | cons a b ih => exact .cons (a.un h1 h2 (nf _ (List.mem_cons_self ..))) (ih fun d hd => nf d (List.mem_cons_of_mem _ hd))
  | ins c ks l =>
    obtain ⟨hl, dx, vs, q, e⟩ := h
    exact ⟨hl, dx, vs, by rw [← h1]; exact q, e.re h1 h2⟩
  | tpl l =>
    obtain ⟨⟨nf, hr⟩, vs, q, e⟩ := h
    refine ⟨⟨nf, hr⟩, vs, q, ?_⟩
    clear q hr
    induction e with
    | nil => exact .nil
    | cons a b ih => exact .cons (a.un h1 h2 (nf _ (List.mem_cons_self ..))) (ih fun d hd => nf d (List.mem_cons_of_mem _ hd))
theorem EncX.re (h1 : M.cls = M'.cls) (h2 : M.fld = M'.fld) {e : D} {c : Value} {d : Option Addr} (h : EncX K M z e c d) : EncX K M' z e c d := by
  obtain ⟨k, l, vs, e1, e2, e3, e4⟩ := h
  refine ⟨k, l, vs, e1, by rw [← h1]; exact e2, ?_, e4.re h1 h2⟩
  unfold XFld at e3 ⊢
  rw [← h2]
  exact e3
variable {f c : Addr} {env : Env} {σ : St} {q : Str}
end
structure ActAt (P : Program) (w : World) (K : PySem.W.Frag) (M : Lm) (mg : Str → Option Value) (base : Heap) (j : Nat) (outer : List PySem.Env) (s : Shared) (H : Hp) (T : Sto → Res D) : Prop where
  ex : ∃ f, M.fn = some f ∧ ∀ (s2 : Shared) (H2 : Hp), Un (frs outer) [] H H2 s.heap s2.heap → PySem.W.FnAt f s2.heap ∧
    ∀ (A : Around) (o2 : List PySem.Env) (Q : VK) (E : XK), Room j A → A.guards = some [] → Env0 P w K mg base A o2 s2 H2 → spF K M 0 (fun _ S => T S) [] H2 Q E → codeAny (model P w) A (.call (.ref f) ⟨[], []⟩) (CR (L2.CX P w) o2 P w H2 s2 Q E) s2
section
variable {X : Cx} {M : Lm} {W : WX}
end
structure FnL (P : Program) (w : World) (K : PySem.W.Frag) (M : Lm) (mg : Str → Option Value) (base : Heap) (k j : Nat) (g : Addr) (gd : FuncData) (a : Str) (m : (Sto → Res D) → Fn) : Prop where
  nofn : ∀ T as S d S', m T as S = .ok d S' → d ≠ .fn
  run : ∀ (f : Addr) (env : Env) (σ : St) (c : Addr) (q : Str) (T : Sto → Res D) (A : Around) (outer : List PySem.Env) (s : Shared) (H : Hp) (args : Args) (us : List Value) (vs : List V) (Q : VK) (E : XK), Room k A → A.guards = some [] → Env0 P w K mg base A outer s H →
    BindsTo s gd args ([a].zip us) → Vals vs us → ActAt P w K (M.lam f env σ c q) mg base j outer s H T → spF K (M.lam f env σ c q) 1 (m T) vs H Q E → codeAny (model P w) A (.call (.ref g) args) (CR (L2.CX P w) outer P w H s Q E) s
theorem fin_nofn {n : Nat} {d d' : D} {S S' : Sto} (h : fin n d S = .ok d' S') : d' ≠ .fn := fun z => by
  subst z
  unfold fin at h
  split at h
  · cases h
  · split at h
    · cases h
    · split at h <;> cases h
  · rename_i n1 _
    cases h
    exact n1 rfl
theorem fnM_nofn {n k : Nat} {body : Env → Sto → SR} {as : List D} {S S' : Sto} {d : D} (h : fnM n k true body as S = .ok d S') : d ≠ .fn := by
  unfold fnM at h
  split at h
  · unfold fnEnd at h
    split at h
    · rw [if_pos rfl] at h
      exact fin_nofn h
    · rw [if_pos rfl] at h
      exact fin_nofn h
    · cases h
    · cases h
  · cases h
section
variable {P : Program} {w : World} {K : PySem.W.Frag} {M : Lm} {mg : Str → Option Value} {base : Heap}
theorem FnL.of {x qual : Str} {st : Stmt} {g : Addr} {gd : FuncData} {N : List Str} {a : Str} {k j nk : Nat} {body : (Sto → Res D) → Env → Sto → SR} (na : M.arr = false) (F : Fun K x qual st g gd) (S : FnScope N [a] (defScope st)) (hk : N.length - 1 = nk) (hN : 1 ≤ N.length)
    (hbody : ∀ (f : Addr) (env : Env) (σ : St) (c : Addr) (q : Str) (T : Sto → Res D) (cdv : Value), gd.code = cdv → ∀ (A : Around) (outer : List PySem.Env) (s : Shared) (H : Hp) (E : XK), ActAt P w K (M.lam f env σ c q) mg base j outer s H T →
      Room k (A.deeper (envOfC qual (defScope st) s.heap.objs.size g cdv)) → (A.deeper (envOfC qual (defScope st) s.heap.objs.size g cdv)).guards = some [] →
      ∀ W, Takes (cxOf (L2.CX P w) P w K mg base N qual (defScope st) g cdv A outer s H E) W → PassesOwn (model P w) (A.deeper (envOfC qual (defScope st) s.heap.objs.size g cdv)) (envOfC qual (defScope st) s.heap.objs.size g cdv) (cxOf (L2.CX P w) P w K mg base N qual (defScope st) g cdv A outer s H E).xe →
      SSs (cxOf (L2.CX P w) P w K mg base N qual (defScope st) g cdv A outer s H E) (M.lam f env σ c q) W (defBody st) (body T)) :
    FnL P w K M mg base (k + 1) j g gd a (fun T => fnM 1 nk true (body T)) := by
  obtain ⟨oc, od, kV, doc, pm, an, cdv, ct, osl, rfl, lk, hcd⟩ := F.ex
  refine ⟨fun T as S d S' h => fnM_nofn h, ?_⟩
  intro f env σ c q T A outer s H args us vs Q E hr hg e0 hb r hA hsp
  obtain ⟨as, z, rfl, kz, hla, hq, hout⟩ := hsp
  have hl : vs.length = [a].length := by rw [← hq.length]; exact hla
  have KX : K.In s.heap := e0.mod.kin.keeps fun b o e => (e0.bs b o e).1
  have lim : s.heap.NoLimit := e0.mod.nolimit.keeps fun b o e => (e0.bs b o e).1
  have hkind : ∀ y ∈ [a].zip us, (defScope st).names.lookup y.1 = some .local ∨ ((defScope st).names.lookup y.1 = some .cell ∧ ((cellsFrom (s.heap.objs.size + 1) (defScope st).names []).lookup y.1).isSome = true) := by
    rintro ⟨n, v⟩ hy
    rcases S.par n (List.of_mem_zip hy).1 with q | q
    · exact .inl q
    · exact .inr ⟨q, PySem.W.cellsFrom_some _ _ _ (.inl q)⟩
  refine codeAny_call_function hr.depth (KX _ _ lk) rfl S.co S.gen rfl (PySem.W.codeRec_of KX hcd) (hb _ _ _ _ ?_)
  refine wpAny_newFunctionEnv_cells S.kind hkind fun env' he s1 x => ?_
  subst he
  refine ⟨lim.keeps x.toInCall.keep, codeAny_func ?_⟩
  have I : Inv (cxOf (L2.CX P w) P w K mg base N qual (defScope st) g cdv A outer s z.H E) [] (L2.start N vs) z.H s1 := inv_start S hr.hd e0 hl r x
  have tk : Takes (cxOf (L2.CX P w) P w K mg base N qual (defScope st) g cdv A outer s z.H E) (fun c d _ H => E c d H) := takes_of rfl rfl rfl rfl
  have ht := hbody f env σ c q T cdv rfl A outer s z.H E hA (hr.deeper _) hg _ tk (passes_of rfl)
  have hq2 : tS K (M.lam f env σ c q) (fun c d _ H => E c d H) (body T) { nx := fun _ H' => Q .non H', rt := Q } (L2.start N vs) z.H := by
    refine ⟨as.map some ++ List.replicate nk none, z, rfl, kz, ?_, fn_end (c := true) (show (M.lam f env σ c q).arr = false from na) kz ?_⟩
    · rw [← hk]
      exact env_start (ps := [a]) hq hla hN
    · unfold fnM at hout
      rw [if_pos hla] at hout
      exact hout
  refine wpAny_mono (ht.run [] s1 (L2.start N vs) z.H _ I hq2) (fun fl s' hs => ?_) fun e s' hs => hs
  have fin' : ∀ {σ' : St} {H' : Hp} {v : V} {u : Value}, Inv (cxOf (L2.CX P w) P w K mg base N qual (defScope st) g cdv A outer s z.H E) [] σ' H' s' → RelV v u → Q v H' → CE outer P w z.H s Q u s' := by
    intro σ' H' v u J rv q
    exact ⟨v, H', J.os, J.bare, J.base, J.hok, rv, q⟩
  cases fl with
  | next =>
    obtain ⟨σ', H', J, q⟩ := hs
    exact fin' (v := V.non) (u := Value.none) J rfl q
  | ret u =>
    obtain ⟨v, σ', H', J, rv, q⟩ := hs
    exact fin' J rv q
  | brk =>
    obtain ⟨_, _, _, q⟩ := hs
    exact q.elim
  | cont =>
    obtain ⟨_, _, _, q⟩ := hs
    exact q.elim
structure DefL (P : Program) (w : World) (K : PySem.W.Frag) (M : Lm) (mg : Str → Option Value) (base : Heap) (x : Str) (k j : Nat) (a : Str) (m : (Sto → Res D) → Fn) : Prop where
  ex : ∃ (g : Addr) (gd : FuncData), FnL P w K M mg base k j g gd a m ∧ mg x = some (.ref g) ∧ PySem.W.keepIn K (.ref g) = true ∧ Binds K gd [a] []
end
structure Mak (M : Lm) (mg : Str → Option Value) (base : Heap) (cdv : Value) (q : Str) : Prop where
  ex : ∃ c P, cdv = .ref c ∧ LamX.TabB base mg c P ∧ (P, q) ∈ M.tabs ∧ ∀ p ∈ M.tabs, p.1 = P → p.2 = q
def lamF (m : (Sto → Res D) → Fn) (E : Env → Sto → Res D) : Env → Sto → Res D := fun env S => m (fun S1 => E env S1) [.fn] S
section
variable {X : Cx} {M : Lm} {W : WX}
end
theorem SubOk.lam {K : PySem.W.Frag} {M : Lm} {f c : Addr} {env : Env} {σ : St} {q : Str} {sub : Nat → Nat → Option Bool} (h : SubOk K M sub) : SubOk K (M.lam f env σ c q) sub := ⟨h.kit, h.exm, h.exc, h.ve⟩
end Sm
namespace Sm
open PySem PySem.Spec PyProof.Rows L2
theorem mk0_nil {K : PySem.W.Frag} {h : Heap} : Mk0 K [] h := ⟨fun _ z => (by cases z), fun _ z => (by cases z), fun _ z => (by cases z)⟩
end Sm
namespace Sm
open PySem PySem.Spec PyProof.Rows L2
section
variable {X : Cx} {M : Lm} {W : WX}
end
section
variable {S : Sto} {R : D → Sto → Prop} {E : D → Sto → Prop}
end
end Sm
namespace Sm
open PySem PySem.Spec PyProof.Rows L2
section
variable {X : Cx} {M : Lm} {W : WX}
end
section
variable {S : Sto} {R : D → Sto → Prop} {E : D → Sto → Prop}
end
section
variable {X : Cx} {M : Lm} {W : WX}
def rEqE (K : PySem.W.Frag) : R2 := fun x y H Q => ∃ (a b : Addr) (xs : List V), x = .ref a ∧ y = .ref b ∧ SqT K H a xs ∧ SqT K H b [] ∧ Q (.bl xs.isEmpty) H
theorem op_eqE0 (hu : X.A.units + 64 < cLine) : OpR X (compareOp .Eq) (rEqE X.K) := by
  intro pins s σ H x y v u Q I rx ry h
  obtain ⟨a, b, xs, rfl, rfl, ha, hb, q⟩ := h
  obtain rfl : v = Value.ref a := rx
  obtain rfl : u = Value.ref b := ry
  obtain ⟨us, r1, ⟨o1, g1, c1, d1⟩, _⟩ := I.tuple ha
  obtain ⟨ws, r2, ⟨o2, g2, c2, d2⟩, _⟩ := I.tuple hb
  cases r2
  refine PySem.SeqAt.eq_tupleAt (e := fun _ => true) (items := us.toArray) (items2 := #[]) ⟨o1, g1, c1, d1⟩ ⟨o2, g2, c2, d2⟩ (by omega) (fun j h1 h2 => absurd h2 (Nat.not_lt_zero j)) (fin_bl I q ?_)
  cases r1 with
  | nil => rfl
  | cons _ _ => simp
def eqED (a b : D) (S : Sto) : Res D := match a, b with
  | .tup l, .tup [] => .ok (.bl l.isEmpty) S
  | a, b => eqD a b S
theorem eqE_ok (hu : X.A.units + 64 < cLine) : OpR X (compareOp .Eq) (rOp X.K M W eqED) := op_of fun a b x y z σ' Q k qa qb h => by
  have gen : eqED a b z.S = eqD a b z.S → ∃ r, OpR X (compareOp .Eq) r ∧ r x y z.H Q := fun e => ⟨_, eq_ok hu, z, a, b, σ', rfl, k, qa, qb, by rw [← e]; exact h⟩
  cases a with
  | tup l =>
    cases b with
    | tup l2 =>
      cases l2 with
      | nil =>
        have h' : Out X.K M (EncA X.K M) W σ' z Q (.ok (.bl l.isEmpty) z.S) := h
        cases qa with
        | of qa =>
          cases qb with
          | of qb =>
            cases qa with
            | tup ra nda la =>
              cases qb with
              | tup rb ndb lb =>
                cases lb
                refine ⟨_, op_eqE0 hu, _, _, _, rfl, rfl, ra, rb, ?_⟩
                have e : ∀ (l : List D) (vs : List V), EncL X.K M z.H z.ow l vs → l.isEmpty = vs.isEmpty := fun _ _ la => by cases la <;> rfl
                rw [← e _ _ la]
                exact out_bl k h'
      | cons _ _ => exact gen rfl
    | _ => exact gen rfl
  | _ => exact gen rfl
end
section
variable {S : Sto} {R : D → Sto → Prop} {E : D → Sto → Prop}
theorem o_eqE {l : List D} (h : R (.bl l.isEmpty) S) : OKR (eqED (.tup l) (.tup []) S) R E := h
end
theorem FnS.bad {P : Program} {w : World} {K : PySem.W.Frag} {M : Lm} {mg : Str → Option Value} {base : Heap} {k : Nat} {f : Addr} {fd : FuncData} {ps : List Str} : FnS P w K M mg base k f fd ps (fun _ _ => .bad) :=
  ⟨fun _ _ _ => rfl, fun A outer s H args us vs Q E hr hg e0 hb r hsp => by
    obtain ⟨as, z, rfl, kz, hla, hq, hout⟩ := hsp
    exact hout.elim⟩
end Sm
namespace Sm
open PySem PySem.Spec PyProof.Rows L2
section
variable {K : PySem.W.Frag} {M : Lm} {z : Sg}
theorem enc_ints {H : Hp} {ow : Addr → Prop} : ∀ l : List Int, EncL K M H ow (l.map D.int) (l.map V.int)
  | [] => .nil
  | i :: l => .cons (.int i) (enc_ints l)
theorem rangeL_eq : ∀ (n : Nat) (lo : Int), rangeL lo n = ((List.range n).map fun i => lo + (i : Nat)).map D.int
  | 0, _ => rfl
  | n + 1, lo => by
    rw [rangeL, rangeL_eq n, List.range_succ_eq_map, List.map_cons, List.map_cons, List.map_map, List.map_map, List.map_map]
    congr 1
    · simp
    · refine List.map_congr_left fun i _ => ?_
      simp only [Function.comp]
      congr 1
      omega
theorem rgV_eq (a b : Int) : rgV a b = ((List.range (b - a).toNat).map fun i => a + (i : Nat)).map V.int := by
  unfold rgV
  rw [List.map_map]
  rfl
theorem enc_rg {H : Hp} {ow : Addr → Prop} (a b : Int) : EncL K M H ow (rangeL a (b - a).toNat) (rgV a b) := by
  rw [rangeL_eq, rgV_eq]
  exact enc_ints _
end
def rgOkB (a b : Int) : Bool := decide (-(2 ^ 62) ≤ a) && (decide (a < 2 ^ 62) && (decide (-(2 ^ 62) ≤ b) && (decide (b < 2 ^ 62) && decide ((b - a).toNat ≤ 2 ^ 24))))
theorem rgOk_of {a b : Int} (h : rgOkB a b = true) : RgOk a b := by
  unfold rgOkB at h
  rw [Bool.and_eq_true, Bool.and_eq_true, Bool.and_eq_true, Bool.and_eq_true, decide_eq_true_iff, decide_eq_true_iff, decide_eq_true_iff, decide_eq_true_iff, decide_eq_true_iff] at h
  exact ⟨h.1, h.2.1, h.2.2.1, h.2.2.2.1, h.2.2.2.2⟩
def mkL (l : List D) (S : Sto) : Res D := .ok (.lst l) S
def mkO (l : List D) (S : Sto) : Res D := .ok (.ref S.length) (S ++ [.lst false l])
def rg1F (mk : List D → Sto → Res D) (f : Env → Sto → Res D) : Env → Sto → Res D := fun env S => (f env S).bind fun d S1 => match d with
  | .int j => if rgOkB 0 j = true then mk (rangeL 0 (j - 0).toNat) S1 else .bad
  | _ => .bad
def rg2F (mk : List D → Sto → Res D) (f g : Env → Sto → Res D) : Env → Sto → Res D := fun env S => (f env S).bind fun d S1 => (g env S1).bind fun e S2 => match d, e with
  | .int i, .int j => if rgOkB i j = true then mk (rangeL i (j - i).toNat) S2 else .bad
  | _, _ => .bad
section
variable {X : Cx} {M : Lm} {W : WX}
theorem t_rg1 {f : Env → Sto → Res D} {mk : List D → Sto → Res D} {R : Int → Int → Hp → VK → Prop} {σ : St} {H : Hp} {Q : VK}
    (hR : ∀ (z : Sg) (a b : Int), SOk X.K M z → rgOkB a b = true → Out X.K M (EncA X.K M) W σ z Q (mk (rangeL a (b - a).toNat) z.S) → R a b z.H Q)
    (h : tE X.K M W (rg1F mk f) σ H Q) : tRg1 (tE X.K M W f) σ H fun a b H1 => R a b H1 Q := by
  obtain ⟨env, z, rfl, k, v, h⟩ := h
  refine ⟨env, z, rfl, k, v, (Out.bind h).imp fun b H1 q => ?_⟩
  obtain ⟨d, z1, rfl, _, x, k1, q, h1⟩ := q
  cases d with
  | int j =>
    rw [encA_int q]
    have h1' : Out X.K M (EncA X.K M) W σ z1 Q (if rgOkB 0 j = true then mk (rangeL 0 (j - 0).toNat) z1.S else Res.bad) := h1
    by_cases c : rgOkB 0 j = true
    · rw [if_pos c] at h1'
      exact ⟨j, rfl, hR z1 0 j k1 c h1'⟩
    · rw [if_neg c] at h1'
      exact h1'.elim
  | _ => exact h1.elim
theorem t_rg2 {f g : Env → Sto → Res D} {mk : List D → Sto → Res D} {R : Int → Int → Hp → VK → Prop} {σ : St} {H : Hp} {Q : VK}
    (hR : ∀ (z : Sg) (a b : Int), SOk X.K M z → rgOkB a b = true → Out X.K M (EncA X.K M) W σ z Q (mk (rangeL a (b - a).toNat) z.S) → R a b z.H Q)
    (h : tE X.K M W (rg2F mk f g) σ H Q) : tRg2 (tE X.K M W f) (tE X.K M W g) σ H fun a b H1 => R a b H1 Q := by
  obtain ⟨env, z, rfl, k, v, h⟩ := h
  refine ⟨env, z, rfl, k, v, (Out.bind h).imp fun b H1 q => ?_⟩
  obtain ⟨d, z1, rfl, _, x, k1, q, h1⟩ := q
  refine ⟨env, z1, rfl, k1, v.ext x, (Out.bind h1).imp fun b2 H2 q2 => ?_⟩
  obtain ⟨e, z2, rfl, _, x2, k2, q2, h2⟩ := q2
  have q' := q.ext x2
  match d, e, q', q2, h2 with
  | .int i, .int j, q', q2, h2 =>
    rw [encA_int q', encA_int q2]
    have h2' : Out X.K M (EncA X.K M) W σ z2 Q (if rgOkB i j = true then mk (rangeL i (j - i).toNat) z2.S else Res.bad) := h2
    by_cases c : rgOkB i j = true
    · rw [if_pos c] at h2'
      exact ⟨i, j, rfl, rfl, hR z2 i j k2 c h2'⟩
    · rw [if_neg c] at h2'
      exact h2'.elim
theorem s_lstR1 {a : Expr} {f : Env → Sto → Res D} {p p2 pos pos2 : Pos} (hc : X.calm = true) (bl : X.mg "list" = none) (br : X.mg "range" = none) (ha : SE X M W a f) (hg : Gl X "list" := by rfl) (hg2 : Gl X "range" := by rfl) (na : starEach [a] X.env = (false, eval a X.env) :: starEach [] X.env := by rfl)
    (na2 : starEach [.Call (.Name "range" p2) [a] [] pos2] X.env = (false, eval (.Call (.Name "range" p2) [a] [] pos2) X.env) :: starEach [] X.env := by rfl) : SE X M W (.Call (.Name "list" p) [.Call (.Name "range" p2) [a] [] pos2] [] pos) (rg1F mkL f) :=
  pe_imp (pe_listRg hc hg bl (prg_1 hg2 br ha na) na2) fun σ H Q h => t_rg1 (R := fun a b H1 Q => RgOk a b ∧ ∀ q, H1 q = none → Q (.ref q) (upd H1 q (.lst (rgV a b)))) (fun z a b k c h => ⟨rgOk_of c, out_lst k (enc_rg a b) h⟩) h
theorem s_lstR2 {a b : Expr} {f g : Env → Sto → Res D} {p p2 pos pos2 : Pos} (hc : X.calm = true) (bl : X.mg "list" = none) (br : X.mg "range" = none) (ha : SE X M W a f) (hb : SE X M W b g) (hg : Gl X "list" := by rfl) (hg2 : Gl X "range" := by rfl) (na : starEach [a, b] X.env = (false, eval a X.env) :: starEach [b] X.env := by rfl)
    (nb : starEach [b] X.env = (false, eval b X.env) :: starEach [] X.env := by rfl) (hp : (backTo pos2 (starEach [b] X.env)).any (·.1) = false := by rfl)
    (na2 : starEach [.Call (.Name "range" p2) [a, b] [] pos2] X.env = (false, eval (.Call (.Name "range" p2) [a, b] [] pos2) X.env) :: starEach [] X.env := by rfl) : SE X M W (.Call (.Name "list" p) [.Call (.Name "range" p2) [a, b] [] pos2] [] pos) (rg2F mkL f g) :=
  pe_imp (pe_listRg hc hg bl (prg_2 hg2 br ha hb na nb hp) na2) fun σ H Q h => t_rg2 (R := fun a b H1 Q => RgOk a b ∧ ∀ q, H1 q = none → Q (.ref q) (upd H1 q (.lst (rgV a b)))) (fun z a b k c h => ⟨rgOk_of c, out_lst k (enc_rg a b) h⟩) h
theorem s_lstR2O {a b : Expr} {f g : Env → Sto → Res D} {p p2 pos pos2 : Pos} (hc : X.calm = true) (bl : X.mg "list" = none) (br : X.mg "range" = none) (ha : SE X M W a f) (hb : SE X M W b g) (hg : Gl X "list" := by rfl) (hg2 : Gl X "range" := by rfl) (na : starEach [a, b] X.env = (false, eval a X.env) :: starEach [b] X.env := by rfl)
    (nb : starEach [b] X.env = (false, eval b X.env) :: starEach [] X.env := by rfl) (hp : (backTo pos2 (starEach [b] X.env)).any (·.1) = false := by rfl)
    (na2 : starEach [.Call (.Name "range" p2) [a, b] [] pos2] X.env = (false, eval (.Call (.Name "range" p2) [a, b] [] pos2) X.env) :: starEach [] X.env := by rfl) : SE X M W (.Call (.Name "list" p) [.Call (.Name "range" p2) [a, b] [] pos2] [] pos) (rg2F mkO f g) :=
  pe_imp (pe_listRg hc hg bl (prg_2 hg2 br ha hb na nb hp) na2) fun σ H Q h => t_rg2 (R := fun a b H1 Q => RgOk a b ∧ ∀ q, H1 q = none → Q (.ref q) (upd H1 q (.lst (rgV a b)))) (fun z a b k c h => ⟨rgOk_of c, out_own k (enc_rg a b) h⟩) h
end
section
variable {S : Sto} {env : Env} {R : D → Sto → Prop} {E : D → Sto → Prop} {f g : Env → Sto → Res D} {mk : List D → Sto → Res D}
theorem o_rg1 (h : OKR (f env S) (fun d S1 => ∃ j, d = .int j ∧ rgOkB 0 j = true ∧ OKR (mk (rangeL 0 (j - 0).toNat) S1) R E) E) : OKR (rg1F mk f env S) R E := o_bind (h.mono (fun d S1 q => by
  obtain ⟨j, rfl, c, q⟩ := q
  show OKR (if rgOkB 0 j = true then mk (rangeL 0 (j - 0).toNat) S1 else .bad) R E
  rw [if_pos c]
  exact q) fun _ _ q => q)
theorem o_rg2 (h : OKR (f env S) (fun d S1 => OKR (g env S1) (fun e S2 => ∃ i j, d = .int i ∧ e = .int j ∧ rgOkB i j = true ∧ OKR (mk (rangeL i (j - i).toNat) S2) R E) E) E) : OKR (rg2F mk f g env S) R E := o_bind (h.mono (fun d S1 q => o_bind (q.mono (fun e S2 q => by
  obtain ⟨i, j, rfl, rfl, c, q⟩ := q
  show OKR (if rgOkB i j = true then mk (rangeL i (j - i).toNat) S2 else .bad) R E
  rw [if_pos c]
  exact q) fun _ _ q => q)) fun _ _ q => q)
theorem o_mkL {l : List D} (h : R (.lst l) S) : OKR (mkL l S) R E := h
theorem o_mkO {l : List D} (h : R (.ref S.length) (S ++ [.lst false l])) : OKR (mkO l S) R E := h
theorem rgOkB_of {a b : Int} (h0 : -1000000 ≤ a) (h1 : a ≤ 1000000) (h2 : -1000000 ≤ b) (h3 : b ≤ 1000000) : rgOkB a b = true := by
  unfold rgOkB
  rw [decide_eq_true (by omega), decide_eq_true (by omega), decide_eq_true (by omega), decide_eq_true (by omega), decide_eq_true (by omega)]
  rfl
theorem and_g {a b : Int} {A : Prop} (e : rgOkB a b = true) (h : A) : rgOkB a b = true ∧ A := ⟨e, h⟩
theorem ex_g2 {x y : Int} {A : Int → Int → Prop} (e : rgOkB x y = true) (h : A x y) : ∃ i j, D.int x = .int i ∧ D.int y = .int j ∧ rgOkB i j = true ∧ A i j := ⟨x, y, rfl, rfl, e, h⟩
end
end Sm
namespace Sm
open PySem PySem.Spec PyProof.Rows L2
class Rule (G : Prop) (C : outParam Prop) : Prop where
  out : C → G
class RuleS (G : Prop) (C : outParam Prop) : Prop where
  out : C → G
section
variable {α β : Type} {P : α → Sto → Prop} {E : D → Sto → Prop} {S : Sto} {env : Env} {N B C : Env → Sto → Prop} {T : D → Sto → Prop} {X : D → Env → Sto → Prop} {R : D → Sto → Prop} {f g h : Env → Sto → Res D}
instance r_o_con {d : D} : Rule (OKR (conF d env S) R E) (R d S) := ⟨fun h => o_con h⟩
end
section
variable {α β : Type} {P : α → Sto → Prop} {E : D → Sto → Prop} {S : Sto} {env : Env} {N B C : Env → Sto → Prop} {T : D → Sto → Prop} {X : D → Env → Sto → Prop} {R : D → Sto → Prop} {f g h : Env → Sto → Res D}
instance r_o_bin {o : D → D → Sto → Res D} : Rule (OKR (binF o f g env S) R E) (OKR (f env S) (fun x S1 => OKR (g env S1) (fun y S2 => OKR (o x y S2) R E) E) E) := ⟨fun h => o_bin h⟩
end
section
variable {α β : Type} {P : α → Sto → Prop} {E : D → Sto → Prop} {S : Sto} {env : Env} {N B C : Env → Sto → Prop} {T : D → Sto → Prop} {X : D → Env → Sto → Prop} {R : D → Sto → Prop} {f g h : Env → Sto → Res D}
instance r_o_call {m : Fn} {k : Env → Sto → Res (List D)} : Rule (OKR (callF m k env S) R E) (OKR (k env S) (fun as S1 => OKR (m as S1) R E) E) := ⟨fun h => o_call h⟩
end
section
variable {α β : Type} {P : α → Sto → Prop} {E : D → Sto → Prop} {S : Sto} {env : Env} {N B C : Env → Sto → Prop} {T : D → Sto → Prop} {X : D → Env → Sto → Prop} {R : D → Sto → Prop} {f g h : Env → Sto → Res D}
instance r_o_nil {R : List D → Sto → Prop} : Rule (OKR (nilA env S) R E) (R [] S) := ⟨fun h => o_nil h⟩
end
section
variable {α β : Type} {P : α → Sto → Prop} {E : D → Sto → Prop} {S : Sto} {env : Env} {N B C : Env → Sto → Prop} {T : D → Sto → Prop} {X : D → Env → Sto → Prop} {R : D → Sto → Prop} {f g h : Env → Sto → Res D}
instance r_o_cons {k : Env → Sto → Res (List D)} {R : List D → Sto → Prop} : Rule (OKR (consA f k env S) R E) (OKR (f env S) (fun d S1 => OKR (k env S1) (fun l S2 => R (d :: l) S2) E) E) := ⟨fun h => o_cons h⟩
end
section
variable {α β : Type} {P : α → Sto → Prop} {E : D → Sto → Prop} {S : Sto} {env : Env} {N B C : Env → Sto → Prop} {T : D → Sto → Prop} {X : D → Env → Sto → Prop} {R : D → Sto → Prop} {f g h : Env → Sto → Res D}
instance r_o_neg  : Rule (OKR (negF f env S) R E) (OKR (f env S) (fun d S1 => ∃ i, d = .int i ∧ R (.int (-i)) S1) E) := ⟨fun h => o_neg h⟩
end
section
variable {α β : Type} {P : α → Sto → Prop} {E : D → Sto → Prop} {S : Sto} {env : Env} {N B C : Env → Sto → Prop} {T : D → Sto → Prop} {X : D → Env → Sto → Prop} {R : D → Sto → Prop} {f g h : Env → Sto → Res D}
instance r_o_not  : Rule (OKR (notV f env S) R E) (OKR (f env S) (fun d S1 => Bl d fun b => R (.bl (!b)) S1) E) := ⟨fun h => o_not h⟩
end
section
variable {α β : Type} {P : α → Sto → Prop} {E : D → Sto → Prop} {S : Sto} {env : Env} {N B C : Env → Sto → Prop} {T : D → Sto → Prop} {X : D → Env → Sto → Prop} {R : D → Sto → Prop} {f g h : Env → Sto → Res D}
instance r_o_and  : Rule (OKR (andV f g env S) R E) (OKR (f env S) (fun d S1 => Bl d fun b => Br b (OKR (g env S1) R E) (R (.bl false) S1)) E) := ⟨fun h => o_and h⟩
end
section
variable {α β : Type} {P : α → Sto → Prop} {E : D → Sto → Prop} {S : Sto} {env : Env} {N B C : Env → Sto → Prop} {T : D → Sto → Prop} {X : D → Env → Sto → Prop} {R : D → Sto → Prop} {f g h : Env → Sto → Res D}
instance r_o_or  : Rule (OKR (orV f g env S) R E) (OKR (f env S) (fun d S1 => Bl d fun b => Br b (R (.bl true) S1) (OKR (g env S1) R E)) E) := ⟨fun h => o_or h⟩
end
section
variable {α β : Type} {P : α → Sto → Prop} {E : D → Sto → Prop} {S : Sto} {env : Env} {N B C : Env → Sto → Prop} {T : D → Sto → Prop} {X : D → Env → Sto → Prop} {R : D → Sto → Prop} {f g h : Env → Sto → Res D}
instance r_o_ite {t : Env → Sto → Res Bool} : Rule (OKR (iteF t f g env S) R E) (OKR (t env S) (fun b S1 => Br b (OKR (f env S1) R E) (OKR (g env S1) R E)) E) := ⟨fun h => o_ite h⟩
end
section
variable {α β : Type} {P : α → Sto → Prop} {E : D → Sto → Prop} {S : Sto} {env : Env} {N B C : Env → Sto → Prop} {T : D → Sto → Prop} {X : D → Env → Sto → Prop} {R : D → Sto → Prop} {f g h : Env → Sto → Res D}
instance r_o_chain {o p : D → D → Sto → Res D} : Rule (OKR (chainF o p f g h env S) R E) (OKR (f env S) (fun x S1 => OKR (g env S1) (fun y S2 => OKR (o x y S2) (fun d S3 => Bl d fun b => Br b (OKR (h env S3) (fun w S4 => OKR (p y w S4) R E) E) (R (.bl false) S3)) E) E) E) := ⟨fun h => o_chain h⟩
end
section
variable {α β : Type} {P : α → Sto → Prop} {E : D → Sto → Prop} {S : Sto} {env : Env} {N B C : Env → Sto → Prop} {T : D → Sto → Prop} {X : D → Env → Sto → Prop} {R : D → Sto → Prop} {f g h : Env → Sto → Res D}
instance r_o_tup {k : Env → Sto → Res (List D)} : Rule (OKR (tupF k env S) R E) (OKR (k env S) (fun l S1 => OKR (frzL l S1) (fun l S2 => l.length ≤ LINE ∧ R (.tup l) S2) E) E) := ⟨fun h => o_tup h⟩
end
section
variable {α β : Type} {P : α → Sto → Prop} {E : D → Sto → Prop} {S : Sto} {env : Env} {N B C : Env → Sto → Prop} {T : D → Sto → Prop} {X : D → Env → Sto → Prop} {R : D → Sto → Prop} {f g h : Env → Sto → Res D}
instance r_o_lst {k : Env → Sto → Res (List D)} : Rule (OKR (lstF k env S) R E) (OKR (k env S) (fun l S1 => OKR (frzL l S1) (fun l S2 => l.length ≤ LINE ∧ R (.lst l) S2) E) E) := ⟨fun h => o_lst h⟩
end
section
variable {α β : Type} {P : α → Sto → Prop} {E : D → Sto → Prop} {S : Sto} {env : Env} {N B C : Env → Sto → Prop} {T : D → Sto → Prop} {X : D → Env → Sto → Prop} {R : D → Sto → Prop} {f g h : Env → Sto → Res D}
instance r_o_lstO {k : Env → Sto → Res (List D)} : Rule (OKR (lstO k env S) R E) (OKR (k env S) (fun l S1 => OKR (frzL l S1) (fun l S2 => l.length ≤ LINE ∧ R (.ref S2.length) (S2 ++ [.lst false l])) E) E) := ⟨fun h => o_lstO h⟩
end
section
variable {α β : Type} {P : α → Sto → Prop} {E : D → Sto → Prop} {S : Sto} {env : Env} {N B C : Env → Sto → Prop} {T : D → Sto → Prop} {X : D → Env → Sto → Prop} {R : D → Sto → Prop} {f g h : Env → Sto → Res D}
instance r_o_frz0 {R : List D → Sto → Prop} : Rule (OKR (frzL [] S) R E) (R [] S) := ⟨fun h => o_frz0 h⟩
end
section
variable {α β : Type} {P : α → Sto → Prop} {E : D → Sto → Prop} {S : Sto} {env : Env} {N B C : Env → Sto → Prop} {T : D → Sto → Prop} {X : D → Env → Sto → Prop} {R : D → Sto → Prop} {f g h : Env → Sto → Res D}
instance r_o_frzc {d : D} {l : List D} {R : List D → Sto → Prop} : Rule (OKR (frzL (d :: l) S) R E) (OKR (frz1 d S) (fun d S1 => OKR (frzL l S1) (fun l S2 => R (d :: l) S2) E) E) := ⟨fun h => o_frzc h⟩
end
section
variable {α β : Type} {P : α → Sto → Prop} {E : D → Sto → Prop} {S : Sto} {env : Env} {N B C : Env → Sto → Prop} {T : D → Sto → Prop} {X : D → Env → Sto → Prop} {R : D → Sto → Prop} {f g h : Env → Sto → Res D}
instance r_o_mt {t : Ty} {m : Mt} {k : Env → Sto → Res (List D)} : Rule (OKR (mtF t m f k env S) R E) (OKR (f env S) (fun d S1 => hasTy t d S1 = true ∧ OKR (k env S1) (fun as S2 => OKR (m d as S2) R E) E) E) := ⟨fun h => o_mt h⟩
end
section
variable {α β : Type} {P : α → Sto → Prop} {E : D → Sto → Prop} {S : Sto} {env : Env} {N B C : Env → Sto → Prop} {T : D → Sto → Prop} {X : D → Env → Sto → Prop} {R : D → Sto → Prop} {f g h : Env → Sto → Res D}
instance r_o_mt0 {t : Ty} {m : Mt} : Rule (OKR (mtF0 t m f env S) R E) (OKR (f env S) (fun d S1 => hasTy t d S1 = true ∧ OKR (m d [] S1) R E) E) := ⟨fun h => o_mt0 h⟩
end
section
variable {α β : Type} {P : α → Sto → Prop} {E : D → Sto → Prop} {S : Sto} {env : Env} {N B C : Env → Sto → Prop} {T : D → Sto → Prop} {X : D → Env → Sto → Prop} {R : D → Sto → Prop} {f g h : Env → Sto → Res D}
instance r_o_slice {lo hi : Env → Sto → Res (Option Int)} : Rule (OKR (sliceF f lo hi env S) R E) (OKR (f env S) (fun a S1 => OKR (lo env S1) (fun l S2 => OKR (hi env S2) (fun h S3 => OKR (cutD a l h S3) R E) E) E) E) := ⟨fun h => o_slice h⟩
end
section
variable {α β : Type} {P : α → Sto → Prop} {E : D → Sto → Prop} {S : Sto} {env : Env} {N B C : Env → Sto → Prop} {T : D → Sto → Prop} {X : D → Env → Sto → Prop} {R : D → Sto → Prop} {f g h : Env → Sto → Res D}
instance r_o_nopart {R : Option Int → Sto → Prop} : Rule (OKR (noPart env S) R E) (R none S) := ⟨fun h => o_nopart h⟩
end
section
variable {α β : Type} {P : α → Sto → Prop} {E : D → Sto → Prop} {S : Sto} {env : Env} {N B C : Env → Sto → Prop} {T : D → Sto → Prop} {X : D → Env → Sto → Prop} {R : D → Sto → Prop} {f g h : Env → Sto → Res D}
instance r_o_part {R : Option Int → Sto → Prop} : Rule (OKR (partF f env S) R E) (OKR (f env S) (fun d S1 => ∃ i, d = .int i ∧ R (some i) S1) E) := ⟨fun h => o_part h⟩
end
section
variable {α β : Type} {P : α → Sto → Prop} {E : D → Sto → Prop} {S : Sto} {env : Env} {N B C : Env → Sto → Prop} {T : D → Sto → Prop} {X : D → Env → Sto → Prop} {R : D → Sto → Prop} {f g h : Env → Sto → Res D}
end
section
variable {α β : Type} {P : α → Sto → Prop} {E : D → Sto → Prop} {S : Sto} {env : Env} {N B C : Env → Sto → Prop} {T : D → Sto → Prop} {X : D → Env → Sto → Prop} {R : D → Sto → Prop} {f g h : Env → Sto → Res D}
end
section
variable {α β : Type} {P : α → Sto → Prop} {E : D → Sto → Prop} {S : Sto} {env : Env} {N B C : Env → Sto → Prop} {T : D → Sto → Prop} {X : D → Env → Sto → Prop} {R : D → Sto → Prop} {f g h : Env → Sto → Res D}
end
section
variable {α β : Type} {P : α → Sto → Prop} {E : D → Sto → Prop} {S : Sto} {env : Env} {N B C : Env → Sto → Prop} {T : D → Sto → Prop} {X : D → Env → Sto → Prop} {R : D → Sto → Prop} {f g h : Env → Sto → Res D}
instance r_o_isB {R : Bool → Sto → Prop} : Rule (OKR (isB f env S) R E) (OKR (f env S) (fun d S1 => Bl d fun b => R b S1) E) := ⟨fun h => o_isB h⟩
end
section
variable {α β : Type} {P : α → Sto → Prop} {E : D → Sto → Prop} {S : Sto} {env : Env} {N B C : Env → Sto → Prop} {T : D → Sto → Prop} {X : D → Env → Sto → Prop} {R : D → Sto → Prop} {f g h : Env → Sto → Res D}
instance r_o_andT {f g : Env → Sto → Res Bool} {R : Bool → Sto → Prop} : Rule (OKR (andT f g env S) R E) (OKR (f env S) (fun b S1 => Br b (OKR (g env S1) R E) (R false S1)) E) := ⟨fun h => o_andT h⟩
end
section
variable {α β : Type} {P : α → Sto → Prop} {E : D → Sto → Prop} {S : Sto} {env : Env} {N B C : Env → Sto → Prop} {T : D → Sto → Prop} {X : D → Env → Sto → Prop} {R : D → Sto → Prop} {f g h : Env → Sto → Res D}
instance r_o_orT {f g : Env → Sto → Res Bool} {R : Bool → Sto → Prop} : Rule (OKR (orT f g env S) R E) (OKR (f env S) (fun b S1 => Br b (R true S1) (OKR (g env S1) R E)) E) := ⟨fun h => o_orT h⟩
end
section
variable {α β : Type} {P : α → Sto → Prop} {E : D → Sto → Prop} {S : Sto} {env : Env} {N B C : Env → Sto → Prop} {T : D → Sto → Prop} {X : D → Env → Sto → Prop} {R : D → Sto → Prop} {f g h : Env → Sto → Res D}
instance r_o_notT {f : Env → Sto → Res Bool} {R : Bool → Sto → Prop} : Rule (OKR (notT f env S) R E) (OKR (f env S) (fun b S1 => R (!b) S1) E) := ⟨fun h => o_notT h⟩
end
section
variable {α β : Type} {P : α → Sto → Prop} {E : D → Sto → Prop} {S : Sto} {env : Env} {N B C : Env → Sto → Prop} {T : D → Sto → Prop} {X : D → Env → Sto → Prop} {R : D → Sto → Prop} {f g h : Env → Sto → Res D}
instance r_o_yes {R : Bool → Sto → Prop} : Rule (OKR (yesF env S) R E) (R true S) := ⟨fun h => o_yes h⟩
end
section
variable {α β : Type} {P : α → Sto → Prop} {E : D → Sto → Prop} {S : Sto} {env : Env} {N B C : Env → Sto → Prop} {T : D → Sto → Prop} {X : D → Env → Sto → Prop} {R : D → Sto → Prop} {f g h : Env → Sto → Res D}
instance r_bl_mk {x : Bool} {R : Bool → Prop} : Rule (Bl (.bl x) R) (R x) := ⟨fun h => bl_mk h⟩
end
section
variable {α β : Type} {P : α → Sto → Prop} {E : D → Sto → Prop} {S : Sto} {env : Env} {N B C : Env → Sto → Prop} {T : D → Sto → Prop} {X : D → Env → Sto → Prop} {R : D → Sto → Prop} {f g h : Env → Sto → Res D}
instance r_br_t {A B : Prop} : Rule (Br true A B) (A) := ⟨fun h => br_t h⟩
end
section
variable {α β : Type} {P : α → Sto → Prop} {E : D → Sto → Prop} {S : Sto} {env : Env} {N B C : Env → Sto → Prop} {T : D → Sto → Prop} {X : D → Env → Sto → Prop} {R : D → Sto → Prop} {f g h : Env → Sto → Res D}
instance r_br_f {A B : Prop} : Rule (Br false A B) (B) := ⟨fun h => br_f h⟩
end
section
variable {α β : Type} {P : α → Sto → Prop} {E : D → Sto → Prop} {S : Sto} {env : Env} {N B C : Env → Sto → Prop} {T : D → Sto → Prop} {X : D → Env → Sto → Prop} {R : D → Sto → Prop} {f g h : Env → Sto → Res D}
instance r_br_not {x : Bool} {A B : Prop} : Rule (Br (!x) A B) (Br x B A) := ⟨fun h => br_not h⟩
end
section
variable {E : D → Sto → Prop} {S : Sto} {R : D → Sto → Prop} {env : Env}
instance r_br_self {α : Type} [DecidableEq α] {x : α} {A B : Prop} : Rule (Br (decide (x = x)) A B) (A) := ⟨fun h => br_self h⟩
end
section
variable {α β : Type} {P : α → Sto → Prop} {E : D → Sto → Prop} {S : Sto} {env : Env} {N B C : Env → Sto → Prop} {T : D → Sto → Prop} {X : D → Env → Sto → Prop} {R : D → Sto → Prop} {f g h : Env → Sto → Res D}
instance r_o_lc {own : List Nat} {it : Env → Sto → Res Itm} {t : Tgt} {c : Env → Sto → Res Bool} {e : Env → Sto → Res D} : Rule (OKR (lcF own it t c e env S) R E) (OKR (it env S) (fun J S1 => J.l.length ≤ LINE ∧ OKR (lcL t c e J.g J.o (wipeE env own) J.l S1) (fun l S2 => R (.lst l) S2) E) E) := ⟨fun h => o_lc h⟩
end
section
variable {α β : Type} {P : α → Sto → Prop} {E : D → Sto → Prop} {S : Sto} {env : Env} {N B C : Env → Sto → Prop} {T : D → Sto → Prop} {X : D → Env → Sto → Prop} {R : D → Sto → Prop} {f g h : Env → Sto → Res D}
instance r_o_lcO {own : List Nat} {it : Env → Sto → Res Itm} {t : Tgt} {c : Env → Sto → Res Bool} {e : Env → Sto → Res D} : Rule (OKR (lcO own it t c e env S) R E) (OKR (it env S) (fun J S1 => J.l.length ≤ LINE ∧ OKR (lcL t c e J.g J.o (wipeE env own) J.l S1) (fun l S2 => R (.ref S2.length) (S2 ++ [.lst false l])) E) E) := ⟨fun h => o_lcO h⟩
end
section
variable {α β : Type} {P : α → Sto → Prop} {E : D → Sto → Prop} {S : Sto} {env : Env} {N B C : Env → Sto → Prop} {T : D → Sto → Prop} {X : D → Env → Sto → Prop} {R : D → Sto → Prop} {f g h : Env → Sto → Res D}
instance r_o_itR1 {k : Env → Sto → Res (List D)} {R : Itm → Sto → Prop} : Rule (OKR (itR1 k env S) R E) (OKR (k env S) (fun as S1 => ∃ j, as = [.int j] ∧ isSm j = true ∧ R ⟨rangeL 0 j.toNat, none, none⟩ S1) E) := ⟨fun h => o_itR1 h⟩
end
section
variable {α β : Type} {P : α → Sto → Prop} {E : D → Sto → Prop} {S : Sto} {env : Env} {N B C : Env → Sto → Prop} {T : D → Sto → Prop} {X : D → Env → Sto → Prop} {R : D → Sto → Prop} {f g h : Env → Sto → Res D}
instance r_o_itR2 {k : Env → Sto → Res (List D)} {R : Itm → Sto → Prop} : Rule (OKR (itR2 k env S) R E) (OKR (k env S) (fun as S1 => ∃ i j, as = [.int i, .int j] ∧ (isSm i && isSm j) = true ∧ R ⟨rangeL i (j - i).toNat, none, none⟩ S1) E) := ⟨fun h => o_itR2 h⟩
end
section
variable {α β : Type} {P : α → Sto → Prop} {E : D → Sto → Prop} {S : Sto} {env : Env} {N B C : Env → Sto → Prop} {T : D → Sto → Prop} {X : D → Env → Sto → Prop} {R : D → Sto → Prop} {f g h : Env → Sto → Res D}
instance r_o_itS {R : Itm → Sto → Prop} : Rule (OKR (itS f env S) R E) (OKR (f env S) (fun d S1 => Sq d S1 R) E) := ⟨fun h => o_itS h⟩
end
section
variable {α β : Type} {P : α → Sto → Prop} {E : D → Sto → Prop} {S : Sto} {env : Env} {N B C : Env → Sto → Prop} {T : D → Sto → Prop} {X : D → Env → Sto → Prop} {R : D → Sto → Prop} {f g h : Env → Sto → Res D}
instance r_o_itE {k : Env → Sto → Res (List D)} {R : Itm → Sto → Prop} : Rule (OKR (itE k env S) R E) (OKR (k env S) (fun as S1 => SqE as S1 R) E) := ⟨fun h => o_itE h⟩
end
section
variable {α β : Type} {P : α → Sto → Prop} {E : D → Sto → Prop} {S : Sto} {env : Env} {N B C : Env → Sto → Prop} {T : D → Sto → Prop} {X : D → Env → Sto → Prop} {R : D → Sto → Prop} {f g h : Env → Sto → Res D}
instance r_o_add {i j : Int} : Rule (OKR (addD (.int i) (.int j) S) R E) (R (.int (i + j)) S) := ⟨fun h => o_add h⟩
end
section
variable {α β : Type} {P : α → Sto → Prop} {E : D → Sto → Prop} {S : Sto} {env : Env} {N B C : Env → Sto → Prop} {T : D → Sto → Prop} {X : D → Env → Sto → Prop} {R : D → Sto → Prop} {f g h : Env → Sto → Res D}
instance r_o_sub {i j : Int} : Rule (OKR (subD (.int i) (.int j) S) R E) (R (.int (i - j)) S) := ⟨fun h => o_sub h⟩
end
section
variable {α β : Type} {P : α → Sto → Prop} {E : D → Sto → Prop} {S : Sto} {env : Env} {N B C : Env → Sto → Prop} {T : D → Sto → Prop} {X : D → Env → Sto → Prop} {R : D → Sto → Prop} {f g h : Env → Sto → Res D}
instance r_o_lt {i j : Int} : Rule (OKR (ltD (.int i) (.int j) S) R E) (R (.bl (decide (i < j))) S) := ⟨fun h => o_lt h⟩
end
section
variable {α β : Type} {P : α → Sto → Prop} {E : D → Sto → Prop} {S : Sto} {env : Env} {N B C : Env → Sto → Prop} {T : D → Sto → Prop} {X : D → Env → Sto → Prop} {R : D → Sto → Prop} {f g h : Env → Sto → Res D}
instance r_o_le {i j : Int} : Rule (OKR (leD (.int i) (.int j) S) R E) (R (.bl (decide (i ≤ j))) S) := ⟨fun h => o_le h⟩
end
section
variable {α β : Type} {P : α → Sto → Prop} {E : D → Sto → Prop} {S : Sto} {env : Env} {N B C : Env → Sto → Prop} {T : D → Sto → Prop} {X : D → Env → Sto → Prop} {R : D → Sto → Prop} {f g h : Env → Sto → Res D}
instance r_o_gt {i j : Int} : Rule (OKR (gtD (.int i) (.int j) S) R E) (R (.bl (decide (j < i))) S) := ⟨fun h => o_gt h⟩
end
section
variable {α β : Type} {P : α → Sto → Prop} {E : D → Sto → Prop} {S : Sto} {env : Env} {N B C : Env → Sto → Prop} {T : D → Sto → Prop} {X : D → Env → Sto → Prop} {R : D → Sto → Prop} {f g h : Env → Sto → Res D}
instance r_o_ge {i j : Int} : Rule (OKR (geD (.int i) (.int j) S) R E) (R (.bl (decide (j ≤ i))) S) := ⟨fun h => o_ge h⟩
end
section
variable {E : D → Sto → Prop} {S : Sto} {R : D → Sto → Prop} {env : Env}
instance r_o_inS {c : Nat} {s : List Nat} : Rule (OKR (inD false (.str [c]) (.str s) S) R E) (R (.bl (decide (c ∈ s))) S) := ⟨fun h => o_inS h⟩
end
section
variable {E : D → Sto → Prop} {S : Sto} {R : D → Sto → Prop} {env : Env}
instance r_o_ninS {c : Nat} {s : List Nat} : Rule (OKR (inD true (.str [c]) (.str s) S) R E) (R (.bl (!decide (c ∈ s))) S) := ⟨fun h => o_ninS h⟩
end
section
variable {E : D → Sto → Prop} {S : Sto} {R : D → Sto → Prop} {env : Env}
instance r_o_eqS {a b : List Nat} : Rule (OKR (eqD (.str a) (.str b) S) R E) (R (.bl (decide (a = b))) S) := ⟨fun h => o_eqS h⟩
end
section
variable {E : D → Sto → Prop} {S : Sto} {R : D → Sto → Prop} {env : Env}
instance r_o_neS {a b : List Nat} : Rule (OKR (neD (.str a) (.str b) S) R E) (R (.bl (!decide (a = b))) S) := ⟨fun h => o_neS h⟩
end
section
variable {E : D → Sto → Prop} {S : Sto} {R : D → Sto → Prop} {env : Env}
instance r_o_eqI {a b : Int} : Rule (OKR (eqD (.int a) (.int b) S) R E) (R (.bl (decide (a = b))) S) := ⟨fun h => o_eqI h⟩
end
section
variable {E : D → Sto → Prop} {S : Sto} {R : D → Sto → Prop} {env : Env}
instance r_o_neI {a b : Int} : Rule (OKR (neD (.int a) (.int b) S) R E) (R (.bl (!decide (a = b))) S) := ⟨fun h => o_neI h⟩
end
section

instance r_ex_int {x : Int} {A : Int → Prop} : Rule (∃ i, D.int x = .int i ∧ A i) (A x) := ⟨fun h => ex_int h⟩
end
section
variable {α β : Type} {P : α → Sto → Prop} {E : D → Sto → Prop} {S : Sto} {env : Env} {N B C : Env → Sto → Prop} {T : D → Sto → Prop} {X : D → Env → Sto → Prop} {R : D → Sto → Prop} {f g h : Env → Sto → Res D}
instance r_sq_lst {l : List D} {R : Itm → Sto → Prop} : Rule (Sq (.lst l) S R) (R ⟨l, none, none⟩ S) := ⟨fun h => sq_lst h⟩
end
section
variable {α β : Type} {P : α → Sto → Prop} {E : D → Sto → Prop} {S : Sto} {env : Env} {N B C : Env → Sto → Prop} {T : D → Sto → Prop} {X : D → Env → Sto → Prop} {R : D → Sto → Prop} {f g h : Env → Sto → Res D}
instance r_sq_tup {l : List D} {R : Itm → Sto → Prop} : Rule (Sq (.tup l) S R) (R ⟨l, none, none⟩ S) := ⟨fun h => sq_tup h⟩
end
section
variable {α β : Type} {P : α → Sto → Prop} {E : D → Sto → Prop} {S : Sto} {env : Env} {N B C : Env → Sto → Prop} {T : D → Sto → Prop} {X : D → Env → Sto → Prop} {R : D → Sto → Prop} {f g h : Env → Sto → Res D}
instance r_sq_str {s : List Nat} {R : Itm → Sto → Prop} : Rule (Sq (.str s) S R) (R ⟨sgL s, none, none⟩ S) := ⟨fun h => sq_str h⟩
end
section
variable {α β : Type} {P : α → Sto → Prop} {E : D → Sto → Prop} {S : Sto} {env : Env} {N B C : Env → Sto → Prop} {T : D → Sto → Prop} {X : D → Env → Sto → Prop} {R : D → Sto → Prop} {f g h : Env → Sto → Res D}
instance r_sqe_lst {l : List D} {R : Itm → Sto → Prop} : Rule (SqE [.lst l] S R) (R ⟨enumL 0 l, none, none⟩ S) := ⟨fun h => sqe_lst h⟩
end
section
variable {S : Sto} {E : D → Sto → Prop} {R : D → Sto → Prop}
instance r_o_abs {i : Int} : Rule (OKR (absM [.int i] S) R E) (R (.int i.natAbs) S) := ⟨fun h => o_abs h⟩
end
section
variable {S : Sto} {E : D → Sto → Prop} {R : D → Sto → Prop} {env : Env}
instance r_o_intI {i : Int} : Rule (OKR (intM [.int i] S) R E) (R (.int i) S) := ⟨fun h => o_intI h⟩
end
section
variable {S : Sto} {E : D → Sto → Prop} {R : D → Sto → Prop} {env : Env}
instance r_o_intB {b : Bool} : Rule (OKR (intM [.bl b] S) R E) (R (.int (if b = true then 1 else 0)) S) := ⟨fun h => o_intB h⟩
end
section
variable {S : Sto} {E : D → Sto → Prop} {R : D → Sto → Prop} {env : Env}
instance r_o_min2 {i j : Int} : Rule (OKR (min2M [.int i, .int j] S) R E) (R (.int (if j < i then j else i)) S) := ⟨fun h => o_min2 h⟩
end
section
variable {S : Sto} {E : D → Sto → Prop} {R : D → Sto → Prop} {env : Env}
instance r_o_max2 {i j : Int} : Rule (OKR (max2M [.int i, .int j] S) R E) (R (.int (if j > i then j else i)) S) := ⟨fun h => o_max2 h⟩
end
section
variable {S : Sto} {E : D → Sto → Prop} {R : D → Sto → Prop} {env : Env}
instance r_o_fC {f : Env → Sto → Res D} {fs : List (Env → Sto → Res D)} {Q : List D → Sto → Prop} : Rule (OKF (f :: fs) env S Q) (OKR (f env S) (fun d S1 => OKF fs env S1 fun ds S2 => Q (d :: ds) S2) fun _ _ => False) := ⟨fun h => o_fC h⟩
end
section
variable {S : Sto} {E : D → Sto → Prop} {R : D → Sto → Prop} {env : Env}
instance r_o_fN {Q : List D → Sto → Prop} : Rule (OKF [] env S Q) (Q [] S) := ⟨fun h => o_fN h⟩
end
section
variable {S : Sto} {E : D → Sto → Prop} {R : D → Sto → Prop} {env : Env} {f : Env → Sto → Res D}
instance r_o_mdIn {l : List (List Nat × D)} {neg : Bool} : Rule (OKR (mdIn l neg f env S) R E) (OKR (f env S) (fun d S1 => ∃ s, d = .str s ∧ R (.bl (if neg then !(lookM l s).isSome else (lookM l s).isSome)) S1) E) := ⟨fun h => o_mdIn h⟩
end
section
variable {S : Sto} {E : D → Sto → Prop} {R : D → Sto → Prop} {env : Env} {f : Env → Sto → Res D}
instance r_o_mdIx {l : List (List Nat × D)} : Rule (OKR (mdIx l f env S) R E) (OKR (f env S) (fun d S1 => ∃ s x, d = .str s ∧ lookM l s = some x ∧ R x S1) E) := ⟨fun h => o_mdIx h⟩
end
section
variable {S : Sto} {E : D → Sto → Prop} {R : D → Sto → Prop} {env : Env} {f : Env → Sto → Res D}
instance r_ex_str {s : List Nat} {A : List Nat → Prop} : Rule (∃ t, D.str s = .str t ∧ A t) (A s) := ⟨fun h => ex_str h⟩
end
section
variable {α β : Type} {S S1 : Sto} {P : α → Sto → Prop} {E : D → Sto → Prop} {N B C : Env → Sto → Prop} {T : D → Sto → Prop} {X : D → Env → Sto → Prop} {env : Env} {R : D → Sto → Prop}
instance r_o_lcC {t : Tgt} {c : Env → Sto → Res Bool} {e : Env → Sto → Res D} {o : Option Ob} {d : D} {r : List D} {Q : List D → Sto → Prop} : Rule (OKR (lcL t c e none o env (d :: r) S) Q E) (∃ env1, t.put d env = some env1 ∧ OKR (c env1 S) (fun b S1 => Br b (OKR (e env1 S1) (fun v S2 => OKR (frz1 v S2) (fun w S3 => OKR (lcL t c e none o env r S3) (fun l S4 => Q (w :: l) S4) E) fun _ _ => False) fun _ _ => False) (OKR (lcL t c e none o env r S1) Q E)) fun _ _ => False) := ⟨fun h => o_lcC h⟩
end
section
variable {α β : Type} {S S1 : Sto} {P : α → Sto → Prop} {E : D → Sto → Prop} {N B C : Env → Sto → Prop} {T : D → Sto → Prop} {X : D → Env → Sto → Prop} {env : Env} {R : D → Sto → Prop}
instance r_o_lcN {t : Tgt} {c : Env → Sto → Res Bool} {e : Env → Sto → Res D} {o : Option Ob} {Q : List D → Sto → Prop} : Rule (OKR (lcL t c e none o env [] S) Q E) (Q [] S) := ⟨fun h => o_lcN h⟩
end
section
variable {α β : Type} {P : α → Sto → Prop} {E : D → Sto → Prop} {S : Sto} {env : Env} {N B C : Env → Sto → Prop} {T : D → Sto → Prop} {X : D → Env → Sto → Prop} {R : D → Sto → Prop} {f g h : Env → Sto → Res D}
instance r_o_nofin {n : Nat} {d : D} {S' : Sto} : Rule (OKR (if false = true then fin n d S' else .ok d S') R E) (R d S') := ⟨fun h => o_nofin h⟩
end
section
variable {α β : Type} {P : α → Sto → Prop} {E : D → Sto → Prop} {S : Sto} {env : Env} {N B C : Env → Sto → Prop} {T : D → Sto → Prop} {X : D → Env → Sto → Prop} {R : D → Sto → Prop} {f g h : Env → Sto → Res D}
instance r_o_seq {f g : Env → Sto → SR} : RuleS (OKS (seqF f g env S) N B C T X) (OKS (f env S) (fun e S1 => OKS (g e S1) N B C T X) B C T X) := ⟨fun h => o_seq h⟩
end
section
variable {α β : Type} {P : α → Sto → Prop} {E : D → Sto → Prop} {S : Sto} {env : Env} {N B C : Env → Sto → Prop} {T : D → Sto → Prop} {X : D → Env → Sto → Prop} {R : D → Sto → Prop} {f g h : Env → Sto → Res D}
instance r_o_set {i : Nat} : RuleS (OKS (setF i f env S) N B C T X) (OKR (f env S) (fun d S1 => N (env.set i (some d)) S1) fun e S1 => X e env S1) := ⟨fun h => o_set h⟩
end
section
variable {α β : Type} {P : α → Sto → Prop} {E : D → Sto → Prop} {S : Sto} {env : Env} {N B C : Env → Sto → Prop} {T : D → Sto → Prop} {X : D → Env → Sto → Prop} {R : D → Sto → Prop} {f g h : Env → Sto → Res D}
instance r_o_ret  : RuleS (OKS (retF f env S) N B C T X) (OKR (f env S) (fun d S1 => T d S1) fun e S1 => X e env S1) := ⟨fun h => o_ret h⟩
end
section
variable {α β : Type} {P : α → Sto → Prop} {E : D → Sto → Prop} {S : Sto} {env : Env} {N B C : Env → Sto → Prop} {T : D → Sto → Prop} {X : D → Env → Sto → Prop} {R : D → Sto → Prop} {f g h : Env → Sto → Res D}
end
section
variable {α β : Type} {P : α → Sto → Prop} {E : D → Sto → Prop} {S : Sto} {env : Env} {N B C : Env → Sto → Prop} {T : D → Sto → Prop} {X : D → Env → Sto → Prop} {R : D → Sto → Prop} {f g h : Env → Sto → Res D}
instance r_o_drop  : RuleS (OKS (dropF f env S) N B C T X) (OKR (f env S) (fun d S1 => N env S1) fun e S1 => X e env S1) := ⟨fun h => o_drop h⟩
end
section
variable {α β : Type} {P : α → Sto → Prop} {E : D → Sto → Prop} {S : Sto} {env : Env} {N B C : Env → Sto → Prop} {T : D → Sto → Prop} {X : D → Env → Sto → Prop} {R : D → Sto → Prop} {f g h : Env → Sto → Res D}
instance r_o_nop  : RuleS (OKS (nopF env S) N B C T X) (N env S) := ⟨fun h => o_nop h⟩
end
section
variable {α β : Type} {P : α → Sto → Prop} {E : D → Sto → Prop} {S : Sto} {env : Env} {N B C : Env → Sto → Prop} {T : D → Sto → Prop} {X : D → Env → Sto → Prop} {R : D → Sto → Prop} {f g h : Env → Sto → Res D}
end
section
variable {α β : Type} {P : α → Sto → Prop} {E : D → Sto → Prop} {S : Sto} {env : Env} {N B C : Env → Sto → Prop} {T : D → Sto → Prop} {X : D → Env → Sto → Prop} {R : D → Sto → Prop} {f g h : Env → Sto → Res D}
end
section
variable {α β : Type} {P : α → Sto → Prop} {E : D → Sto → Prop} {S : Sto} {env : Env} {N B C : Env → Sto → Prop} {T : D → Sto → Prop} {X : D → Env → Sto → Prop} {R : D → Sto → Prop} {f g h : Env → Sto → Res D}
instance r_o_if {t : Env → Sto → Res Bool} {f g : Env → Sto → SR} : RuleS (OKS (ifF t f g env S) N B C T X) (OKR (t env S) (fun b S1 => Br b (OKS (f env S1) N B C T X) (OKS (g env S1) N B C T X)) fun e S1 => X e env S1) := ⟨fun h => o_if h⟩
end
section
variable {α β : Type} {P : α → Sto → Prop} {E : D → Sto → Prop} {S : Sto} {env : Env} {N B C : Env → Sto → Prop} {T : D → Sto → Prop} {X : D → Env → Sto → Prop} {R : D → Sto → Prop} {f g h : Env → Sto → Res D}
instance r_o_par {is : List Nat} {k : Env → Sto → Res (List D)} : RuleS (OKS (parF is k env S) N B C T X) (OKR (k env S) (fun as S1 => as.length = is.length ∧ N (parF.putAll is as env) S1) fun e S1 => X e env S1) := ⟨fun h => o_par h⟩
end
section
variable {α β : Type} {P : α → Sto → Prop} {E : D → Sto → Prop} {S : Sto} {env : Env} {N B C : Env → Sto → Prop} {T : D → Sto → Prop} {X : D → Env → Sto → Prop} {R : D → Sto → Prop} {f g h : Env → Sto → Res D}
instance r_o_unp {t : Tgt} : RuleS (OKS (unpF t f env S) N B C T X) (OKR (f env S) (fun d S1 => ∃ env1, t.put d env = some env1 ∧ N env1 S1) fun e S1 => X e env S1) := ⟨fun h => o_unp h⟩
end
section
variable {α β : Type} {P : α → Sto → Prop} {E : D → Sto → Prop} {S : Sto} {env : Env} {N B C : Env → Sto → Prop} {T : D → Sto → Prop} {X : D → Env → Sto → Prop} {R : D → Sto → Prop} {f g h : Env → Sto → Res D}
instance r_o_put {o i e : Env → Sto → Res D} : RuleS (OKS (putF o i e env S) N B C T X) (OKR (e env S) (fun v S1 => OKR (o env S1) (fun a S2 => OKR (i env S2) (fun b S3 => OKR (setD a b v S3) (fun _ S4 => N env S4) fun e S1 => X e env S1) fun e S1 => X e env S1) fun e S1 => X e env S1) fun e S1 => X e env S1) := ⟨fun h => o_put h⟩
end
section
variable {α β : Type} {P : α → Sto → Prop} {E : D → Sto → Prop} {S : Sto} {env : Env} {N B C : Env → Sto → Prop} {T : D → Sto → Prop} {X : D → Env → Sto → Prop} {R : D → Sto → Prop} {f g h : Env → Sto → Res D}
instance r_o_for {it : Env → Sto → Res Itm} {t : Tgt} {b : Env → Sto → SR} : RuleS (OKS (itF it t b env S) N B C T X) (OKR (it env S) (fun J S1 => OKS (forL t b J.g J.o J.l env S1) N B C T X) fun e S1 => X e env S1) := ⟨fun h => o_for h⟩
end
section
variable {α β : Type} {S S1 : Sto} {P : α → Sto → Prop} {E : D → Sto → Prop} {N B C : Env → Sto → Prop} {T : D → Sto → Prop} {X : D → Env → Sto → Prop} {env : Env} {R : D → Sto → Prop}
instance r_o_raise {k : Nat} : RuleS (OKS (raiseF k env S) N B C T X) (X (.exc k []) env S) := ⟨fun h => o_raise h⟩
end
section
variable {α β : Type} {S S1 : Sto} {P : α → Sto → Prop} {E : D → Sto → Prop} {N B C : Env → Sto → Prop} {T : D → Sto → Prop} {X : D → Env → Sto → Prop} {env : Env} {R : D → Sto → Prop}
end
section
variable {S : Sto} {env : Env} {R : D → Sto → Prop} {E : D → Sto → Prop} {f g : Env → Sto → Res D} {mk : List D → Sto → Res D}
instance r_o_rg1  : Rule (OKR (rg1F mk f env S) R E) (OKR (f env S) (fun d S1 => ∃ j, d = .int j ∧ rgOkB 0 j = true ∧ OKR (mk (rangeL 0 (j - 0).toNat) S1) R E) E) := ⟨fun h => o_rg1 h⟩
end
section
variable {S : Sto} {env : Env} {R : D → Sto → Prop} {E : D → Sto → Prop} {f g : Env → Sto → Res D} {mk : List D → Sto → Res D}
instance r_o_rg2  : Rule (OKR (rg2F mk f g env S) R E) (OKR (f env S) (fun d S1 => OKR (g env S1) (fun e S2 => ∃ i j, d = .int i ∧ e = .int j ∧ rgOkB i j = true ∧ OKR (mk (rangeL i (j - i).toNat) S2) R E) E) E) := ⟨fun h => o_rg2 h⟩
end
section
variable {S : Sto} {env : Env} {R : D → Sto → Prop} {E : D → Sto → Prop} {f g : Env → Sto → Res D} {mk : List D → Sto → Res D}
instance r_o_mkL {l : List D} : Rule (OKR (mkL l S) R E) (R (.lst l) S) := ⟨fun h => o_mkL h⟩
end
section
variable {S : Sto} {env : Env} {R : D → Sto → Prop} {E : D → Sto → Prop} {f g : Env → Sto → Res D} {mk : List D → Sto → Res D}
end
section
variable {S : Sto} {env : Env} {R : D → Sto → Prop} {E : D → Sto → Prop} {f g : Env → Sto → Res D} {mk : List D → Sto → Res D}
instance r_o_mkO {l : List D} : Rule (OKR (mkO l S) R E) (R (.ref S.length) (S ++ [.lst false l])) := ⟨fun h => o_mkO h⟩
end
instance r_var {i : Nat} {env : Env} {S : Sto} {R E : D → Sto → Prop} : Rule (OKR (varF i env S) R E) (∃ d, env[i]? = some (some d) ∧ R d S) := ⟨fun ⟨_, e, h⟩ => o_var e h⟩
theorem ex_var {a : Option (Option D)} {A : D → Prop} {d : D} (e : a = some (some d)) (h : A d) : ∃ d, a = some (some d) ∧ A d := ⟨d, e, h⟩
end Sm
namespace Sm
open PySem PySem.Spec PyProof.Rows L2
class HasC (G : Prop) : Prop where
  go : G → G
section
variable {α : Type} {S S' : Sto} {env : Env} {R E : D → Sto → Prop} {N B C : Env → Sto → Prop} {T : D → Sto → Prop} {X : D → Env → Sto → Prop}
instance {d : D} : HasC (OKR (frz1 d S) R E) := ⟨id⟩
instance {d : D} {d2 : D} : HasC (OKR (ixD d d2 S) R E) := ⟨id⟩
instance {d : D} {n : Nat} : HasC (OKR (if true = true then fin n d S' else .ok d S') R E) := ⟨id⟩
instance {as : List D} : HasC (OKR (lenM as S) R E) := ⟨id⟩
instance {d : D} {d2 : D} {b : Bool} : HasC (OKR (inD b d d2 S) R E) := ⟨id⟩
instance {d : D} {d2 : D} : HasC (OKR (eqD d d2 S) R E) := ⟨id⟩
instance {d : D} {d2 : D} : HasC (OKR (neD d d2 S) R E) := ⟨id⟩
instance {d : D} {d2 : D} {b : Bool} : HasC (OKR (isNonD b d d2 S) R E) := ⟨id⟩
instance {as : List D} : HasC (OKR (isiM as S) R E) := ⟨id⟩
instance {as : List D} {sub : Nat → Nat → Option Bool} : HasC (OKR (isiX sub as S) R E) := ⟨id⟩
instance {d : D} {d2 : D} : HasC (OKR (mulD d d2 S) R E) := ⟨id⟩
instance {d : D} {d2 : D} : HasC (OKR (fdivD d d2 S) R E) := ⟨id⟩
instance {d : D} {d2 : D} : HasC (OKR (powD d d2 S) R E) := ⟨id⟩
instance {ss : List (List Nat)} {fs : List (Env → Sto → Res D)} : HasC (OKR (dispO ss fs env S) R E) := ⟨id⟩
instance {ss : List (List Nat)} {fs : List (Env → Sto → Res D)} : HasC (OKR (dispF ss fs env S) R E) := ⟨id⟩
instance {d : D} {lo : Option Int} {hi : Option Int} : HasC (OKR (cutD d lo hi S) R E) := ⟨id⟩
instance {lm : (Sto → Res D) → Fn} {lb : Env → Sto → Res D} : HasC (OKR (lamF lm lb env S) R E) := ⟨id⟩
instance {i : Nat} {o : Int → Int → Int} {f : Env → Sto → Res D} : HasC (OKS (augF i o f env S) N B C T X) := ⟨id⟩
theorem g_br {b : Bool} {A B : Prop} (h : Br b A B) : Br b A B := h
theorem g_ex {α : Type} {p : α → Prop} (h : ∃ x, p x) : ∃ x, p x := h
theorem g_and {A B : Prop} (h : A ∧ B) : A ∧ B := h
end
end Sm
namespace Sm
open PySem PySem.Spec PyProof.Rows L2
section
variable {P : Program} {w : World} {K : PySem.W.Frag} {M : Lm} {mg : Str → Option Value} {base : Heap} {z z' : Sg}
end
section
variable {P : Program} {w : World} {K : PySem.W.Frag} {M : Lm} {mg : Str → Option Value} {base : Heap}
end
section
variable {R : D → Sto → Prop} {E : D → Sto → Prop} {S : Sto}
end
end Sm
namespace Sm
open PySem PySem.Spec PyProof.Rows L2
section
variable {K : PySem.W.Frag} {M : Lm} {z z' : Sg}
theorem EncAs.get : ∀ {l : List D} {vs : List V} {i : Nat} {d : D}, EncAs K M z l vs → l[i]? = some d → ∃ v, vs[i]? = some v ∧ EncA K M z d v
  | _, _, _, _, .nil, e => by simp at e
  | _, _, 0, _, .cons h _, e => by
    simp at e
    subst e
    exact ⟨_, rfl, h⟩
  | _, _, i + 1, d, .cons _ t, e => by
    obtain ⟨v, h1, h2⟩ := EncAs.get (i := i) (d := d) t (by simpa using e)
    exact ⟨v, by simpa using h1, h2⟩
theorem EncAs.app : ∀ {l r : List D} {vs us : List V}, EncAs K M z l vs → EncAs K M z r us → EncAs K M z (l ++ r) (vs ++ us)
  | _, _, _, _, .nil, s => s
  | _, _, _, _, .cons h t, s => .cons h (EncAs.app t s)
end
section
variable {X : Cx} {M : Lm} {W : WX}
end
section
variable {S : Sto} {env : Env} {R : D → Sto → Prop} {E : D → Sto → Prop} {f g : Env → Sto → Res D}
end
end Sm
namespace Sm
open PySem PySem.Spec PyProof.Rows L2
section
variable {X : Cx} {M : Lm} {W : WX}
end
section
variable {S : Sto} {R : D → Sto → Prop} {E : D → Sto → Prop}
end
end Sm
namespace Sm
open PySem PySem.Spec PyProof.Rows L2
section
variable {X : Cx} {M : Lm} {W : WX} {K : PySem.W.Frag} {z : Sg} {pos : Pos} {ta tb tc td : TE} {a b c d : Expr}
end
section
variable {S : Sto} {env : Env} {R : D → Sto → Prop} {E : D → Sto → Prop} {f g h i : Env → Sto → Res D}
end
end Sm
namespace Sm
open PySem PySem.Spec PyProof.Rows L2
theorem SubOk.cls {K : PySem.W.Frag} {M M' : Lm} {sub : Nat → Nat → Option Bool} (h : SubOk K M sub) (e : ∀ k j b, sub k j = some b → M'.cls k = M.cls k ∧ M'.cls j = M.cls j) : SubOk K M' sub :=
  ⟨fun k j b q => by rw [(e k j b q).1, (e k j b q).2]; exact h.kit k j b q, fun k j b q => by rw [(e k j b q).1, (e k j b q).2]; exact h.exm k j b q, fun k j b q => by rw [(e k j b q).1]; exact h.exc k j b q, fun k j b q => by rw [(e k j b q).1]; exact h.ve k j b q⟩
structure TV (X : Cx) (M : Lm) (k : Nat) (tbl : List (Nat × Fn)) : Prop where
  ex : ∀ c m, tbl.lookup c = some m → ∃ fd ps, FnS X.prog X.w X.K M X.mg X.base k (M.cls c) fd ps m ∧ PySem.W.keepIn X.K (.ref (M.cls c)) = true ∧ Binds X.K fd ps []
section
variable {X : Cx} {M : Lm} {W : WX}
end
end Sm
namespace Sm
open PySem PySem.Spec PyProof.Rows L2
section
variable {K : PySem.W.Frag} {M : Lm} {z : Sg}
variable {X : Cx} {W : WX}
end
section
variable {K : PySem.W.Frag} {M : Lm} {z : Sg}
variable {X : Cx} {W : WX}
end
end Sm
namespace Sm
open PySem PySem.Spec PyProof.Rows L2
def insI (x : Int) : List Int → List Int
  | [] => [x]
  | y :: l => if x ≤ y then x :: y :: l else y :: insI x l
def sortI : List Int → List Int
  | [] => []
  | x :: l => insI x (sortI l)
theorem insI_perm (x : Int) : ∀ l, (insI x l).Perm (x :: l)
  | [] => .refl _
  | y :: l => by
    unfold insI
    split
    · exact .refl _
    · exact ((insI_perm x l).cons y).trans (.swap x y l)
theorem sortI_perm : ∀ l, (sortI l).Perm l
  | [] => .refl _
  | x :: l => (insI_perm x (sortI l)).trans ((sortI_perm l).cons x)
theorem insI_sorted (x : Int) : ∀ {l : List Int}, l.Pairwise (· ≤ ·) → (insI x l).Pairwise (· ≤ ·)
  | [], _ => by simp [insI]
  | y :: l, h => by
    unfold insI
    rw [List.pairwise_cons] at h
    split
    · rename_i c
      rw [List.pairwise_cons, List.pairwise_cons]
      exact ⟨fun a ha => by
        rcases List.mem_cons.mp ha with rfl | ha
        · exact c
        · exact Int.le_trans c (h.1 a ha), h⟩
    · rename_i c
      rw [List.pairwise_cons]
      refine ⟨fun a ha => ?_, insI_sorted x h.2⟩
      rcases List.mem_cons.mp ((insI_perm x l).mem_iff.mp ha) with rfl | ha
      · omega
      · exact h.1 a ha
theorem sortI_sorted : ∀ l, (sortI l).Pairwise (· ≤ ·)
  | [] => .nil
  | x :: l => insI_sorted x (sortI_sorted l)
theorem sorted_uniq : ∀ {a b : List Int}, a.Perm b → a.Pairwise (· ≤ ·) → b.Pairwise (· ≤ ·) → a = b
  | [], b, p, _, _ => by
    have := p.length_eq
    cases b with
    | nil => rfl
    | cons _ _ => simp at this
  | x :: a, [], p, _, _ => by
    have := p.length_eq
    simp at this
  | x :: a, y :: b, p, ha, hb => by
    rw [List.pairwise_cons] at ha hb
    have e : x = y := by
      have h1 := p.mem_iff.mp (List.mem_cons_self (a := x) (l := a))
      have h2 := p.mem_iff.mpr (List.mem_cons_self (a := y) (l := b))
      rcases List.mem_cons.mp h1 with h1 | h1
      · exact h1
      · rcases List.mem_cons.mp h2 with h2 | h2
        · exact h2.symm
        · have := ha.1 y h2
          have := hb.1 x h1
          omega
    subst e
    rw [sorted_uniq (List.perm_cons x |>.mp p) ha.2 hb.2]
theorem sortI_uniq {ns ns' : List Int} (p : ns'.Perm ns) (h : ns'.Pairwise (· ≤ ·)) : ns' = sortI ns := sorted_uniq (p.trans (sortI_perm ns).symm) h (sortI_sorted ns)
def keysI : List (D × D) → Option (List Int)
  | [] => some []
  | (.int i, _) :: l => (keysI l).map (i :: ·)
  | _ :: _ => none
def sortedM : Fn := fun as S => match as with
  | [d] => match getL d S with
    | some l => match allIn l with
      | some ns => .ok (.lst ((sortI ns).map .int)) S
      | none => .bad
    | none => match getP d S with
      | some kvs => match keysI kvs with
        | some ns => if ns.length < 64 then .ok (.lst ((sortI ns).map .int)) S else .bad
        | none => .bad
      | none => .bad
  | _ => .bad
section
variable {X : Cx} {M : Lm} {W : WX} {K : PySem.W.Frag} {z : Sg}
theorem keysI_enc {H : Hp} {ow : Addr → Prop} : ∀ {l : List (D × D)} {kvs : List (Key × V)} {ns : List Int}, EncP K M H ow l kvs → keysI l = some ns → kvs.map (·.1) = ns.map Sum.inl
  | _, _, ns, .nil, h => by
    cases h
    rfl
  | _, _, ns, .cons (k := k) (l := l) hk hv t, h => by
    cases k with
    | int i =>
      have h : (keysI l).map (i :: ·) = some ns := h
      cases r : keysI l with
      | none =>
        rw [r] at h
        cases h
      | some m =>
        rw [r] at h
        cases h
        have e : Sum.inl i = _ := Option.some.inj hk
        rw [List.map_cons, List.map_cons, ← e, keysI_enc t r]
    | _ => cases h
theorem sorted_ok (hc : X.calm = true) : CallR X (.builtin "sorted") (rCl X.K M W sortedM) := call_of fun as xs z σ' Q k qa h => by
  unfold sortedM at h
  split at h
  · obtain ⟨v, rfl, q⟩ := encAs1 qa
    rename_i d
    cases g : getL d z.S with
    | some l =>
      rw [g] at h
      dsimp only at h
      cases r : allIn l with
      | none =>
        rw [r] at h
        exact h.elim
      | some ns =>
        rw [r] at h
        obtain ⟨a, vs, rfl, hs, hl⟩ := getL_ok k q g
        rw [allIn_enc r hl] at hs
        refine ⟨_, cr_sortedI, a, ns, rfl, hs, fun ns' p pm ps np => ?_⟩
        rw [sortI_uniq pm ps]
        exact out_lst k (enc_ints _) h p np
    | none =>
      rw [g] at h
      dsimp only at h
      cases g2 : getP d z.S with
      | none =>
        rw [g2] at h
        exact h.elim
      | some kvs =>
        rw [g2] at h
        dsimp only at h
        cases r : keysI kvs with
        | none =>
          rw [r] at h
          exact h.elim
        | some ns =>
          rw [r] at h
          dsimp only at h
          by_cases c : ns.length < 64
          · rw [if_pos c] at h
            obtain ⟨a, ks, rfl, ha, hl⟩ := getP_ok k q g2
            refine ⟨_, call_sortedDI hc, a, ks, ns, rfl, .inl ha, keysI_enc hl r, c, fun ys p pm ps np => ?_⟩
            rw [sortI_uniq pm ps]
            exact out_lst k (enc_ints _) h p np
          · rw [if_neg c] at h
            exact h.elim
  · exact h.elim
end
section
variable {S : Sto} {P : D → Sto → Prop} {E : D → Sto → Prop}
theorem o_sortL {d : D} {l : List D} {ns : List Int} (e : getL d S = some l) (e2 : allIn l = some ns) (h : P (.lst ((sortI ns).map .int)) S) : OKR (sortedM [d] S) P E := by
  unfold sortedM
  dsimp only
  rw [e]
  dsimp only
  rw [e2]
  exact h
end
end Sm
namespace Sm
open PySem PySem.Spec PyProof.Rows L2
abbrev EF := Env → Sto → Res D
section
variable {X : Cx} {M : Lm} {W : WX} {K : PySem.W.Frag}
inductive SKs (X : Cx) (M : Lm) : List (Option Expr) → List Expr → List (EF × EF) → Prop
  | nil : SKs X M [] [] []
  | cons {k v : Expr} {ks : List (Option Expr)} {vs : List Expr} {f g : EF} {fs : List (EF × EF)} (h1 : SE X M W0 k f) (h2 : SE X M W0 v g) (t : SKs X M ks vs fs) : SKs X M (some k :: ks) (v :: vs) ((f, g) :: fs)
end
end Sm
namespace Sm
open PySem PySem.Spec PyProof.Rows L2
section
variable {X : Cx} {M : Lm} {W : WX}
end
section
variable {S : Sto} {R : D → Sto → Prop} {E : D → Sto → Prop} {env : Env} {f g : Env → Sto → Res D}
end
end Sm
namespace Sm
open PySem PySem.Spec PyProof.Rows L2
section
variable {X : Cx} {e : Expr} {es : List Expr} {ta : TA} {p1 p2 pos : Pos}
end
end Sm
namespace Sm
open PySem PySem.Spec PyProof.Rows L2
def sp1 (C : Addr) (fn : Str) : Sp := fun vs H Q _ => ∃ (a : Addr) (v : V), vs = [.ref a, v] ∧ H a = some (exo a C none) ∧ ∀ dx, H dx = none → dx ≠ a → Q .non (upd (upd H dx (exd dx [(fn, v)])) a (exo a C (some dx)))
theorem init1_ok {P : Program} {w : World} {K : PySem.W.Frag} {mg : Str → Option Value} {base : Heap} {x qual sn vn fn : Str} {st : Stmt} {f : Addr} {fd : FuncData} {k : Nat} {C : Addr} (F : Fun K x qual st f fd) (S : FnScope [sn, vn] [sn, vn] (defScope st)) (T : OexC K C) (hno : PySem.W.findIn K (.ref C) fn = some none)
    (hb : ∀ (cdv : Value) (A : Around) (outer : List PySem.Env) (s : Shared) (H : Hp) (E : XK), PSs (cxOf (L2.CX P w) P w K mg base [sn, vn] qual (defScope st) f cdv A outer s H E) (defBody st) (tSeq (tDrop (tVeI K (tCons (tVar 0) (tCons (tVar 1) tNil)))) (tOst K fn (tVar 0) (tVar 1)))) :
    FnOk P w K mg base (L2.CX P w) (k + 1) f fd [sn, vn] (sp1 C fn) := by
  refine Fun.okX F S (fun vs H Q E h => ?_) fun cdv A outer s H vs Q E _ h => ?_
  · obtain ⟨a, v, rfl, _⟩ := h
    rfl
  · obtain ⟨a, v, rfl, ha, q⟩ := h
    exact ⟨_, hb cdv A outer s H E, .ref a, rfl, v, rfl, a, C, [v], rfl, Nat.le_of_ble_eq_true rfl, T, ha, v, rfl, .ref a, rfl, a, C, rfl, T, hno, .inl ⟨ha, q⟩⟩
section
variable {X : Cx} {M : Lm} {W : WX}
end
section
variable {S : Sto} {N B C : Env → Sto → Prop} {T : D → Sto → Prop} {X : D → Env → Sto → Prop} {env : Env} {g : Env → Sto → Res D}
end
end Sm
namespace Sm
open PySem PySem.Spec PyProof.Rows L2
section
variable {X : Cx} {M : Lm} {W : WX}
structure FldK (K : PySem.W.Frag) (M : Lm) (n : Str) (k : Nat) : Prop where
  xf : XfC K (M.cls k)
  no : PySem.W.findIn K (.ref (M.cls k)) n = some none
  at_ : M.fld k = [n]
end
section
variable {S : Sto} {R : D → Sto → Prop} {E : D → Sto → Prop} {env : Env} {g : Env → Sto → Res D}
end
end Sm
namespace Sm
open PySem PySem.Spec PyProof.Rows L2
structure Ini (P : Program) (w : World) (K : PySem.W.Frag) (M : Lm) (mg : Str → Option Value) (base : Heap) (k j : Nat) (n : Str) : Prop where
  oex : OexC K (M.cls k)
  fn : ∃ (fI : Addr) (fd : FuncData) (sn vn : Str), PySem.W.findIn K (.ref (M.cls k)) "__init__" = some (some (.ref fI)) ∧ PySem.W.typeIn K (.ref fI) = some (.type "function") ∧ FnOk P w K mg base (L2.CX P w) j fI fd [sn, vn] (sp1 (M.cls k) n) ∧ Binds K fd [sn, vn] []
  fld : M.fld k = [n]
section
variable {X : Cx} {M : Lm} {W : WX}
end
theorem Ini.of {P : Program} {w : World} {K : PySem.W.Frag} {M : Lm} {mg : Str → Option Value} {base : Heap} {i : Nat} {fI : Addr} {qual sn vn n : Str} {st : Stmt} {fd : FuncData} (ox : OexC K (M.cls i)) (fi : PySem.W.findIn K (.ref (M.cls i)) "__init__" = some (some (.ref fI))) (ti : PySem.W.typeIn K (.ref fI) = some (.type "function")) (F : Fun K "__init__" qual st fI fd) (S : FnScope [sn, vn] [sn, vn] (defScope st)) (no : PySem.W.findIn K (.ref (M.cls i)) n = some none) (bi : Binds K fd [sn, vn] []) (fl : M.fld i = [n])
    (hb : ∀ (cdv : Value) (A : Around) (outer : List PySem.Env) (s : Shared) (H : Hp) (E : XK), PSs (cxOf (L2.CX P w) P w K mg base [sn, vn] qual (defScope st) fI cdv A outer s H E) (defBody st) (tSeq (tDrop (tVeI K (tCons (tVar 0) (tCons (tVar 1) tNil)))) (tOst K n (tVar 0) (tVar 1)))) : Ini P w K M mg base i 1 n :=
  ⟨ox, ⟨fI, fd, sn, vn, fi, ti, init1_ok (k := 0) F S ox no hb, bi⟩, fl⟩
end Sm
namespace Sm
open PySem PySem.Spec PyProof.Rows L2
abbrev veT : List Value := [.type "ValueError", .type "Exception", .type "BaseException", .type "object"]
theorem refsVE_of : ∀ l : List Value, PySem.W.excTail veT l = true → PySem.HandSPX.refsVE l = true := by
  intro l
  induction l with
  | nil => exact fun e => e
  | cons a r ih =>
    intro e
    cases a with
    | ref c => exact ih e
    | _ => exact e
theorem OexC.of {K : PySem.W.Frag} {C : Addr} (q : PySem.W.excInitIn K C veT "ValueError.__new__" = true) (hd : PySem.W.hasDictIn K C = true) (sa : PySem.W.findIn K (.ref C) "__setattr__" = some (some (.builtin "object.__setattr__"))) (s : PySem.W.subIn K (.ref C) (.type "BaseException") = some true) (t : PySem.W.typeIn K (.ref C) = some (.type "type")) (k : PySem.W.keepIn K (.ref C) = true) : OexC K C := by
  refine ⟨?_, sa, s, t, k⟩
  unfold PySem.W.excInitIn at q
  split at q
  · rename_i dd cd sl ho
    split at q
    · rename_i C' bm k0 k1 k2 k3 n k5 hm hs
      simp only [Bool.and_eq_true, beq_iff_eq, Bool.not_eq_true'] at q
      obtain ⟨⟨⟨rfl, rfl⟩, hdel⟩, ht⟩ := q
      have hc : PySem.W.clsIn K C' = some cd := by unfold PySem.W.clsIn; rw [ho] <;> rfl
      unfold PySem.W.hasDictIn at hd
      rw [hc] at hd
      have hd' : cd.hasDict = true := hd
      obtain ⟨nm, bs, mro, ns, qn, hdc, sn, sub, ab, col, del⟩ := cd
      dsimp only at hm hdel hd'
      subst hm hdel hd'
      have hsl : sl = #[k0, k1, k2, k3, some (.builtin "ValueError.__new__"), k5] := by
        obtain ⟨l⟩ := sl
        simp only at hs
        rw [hs]
      subst hsl
      exact ⟨nm, qn, ns, bs, bm, sn, sub, ab, col, dd, k0, k1, k2, k3, k5, ho, refsVE_of _ ht⟩
    · cases q
  · cases q
def mk1 (g : Env → Sto → Res D) : Env → Sto → Res (List D) := fun env S => (g env S).bind fun d S1 => (frz1 d S1).bind fun d' S2 => .ok [d'] S2
section
variable {X : Cx} {M : Lm} {W : WX}
def sp2 (C : Addr) (f1 f2 : Str) : Sp := fun vs H Q _ => ∃ (a : Addr) (v1 v2 : V), vs = [.ref a, v1, v2] ∧ H a = some (exo a C none) ∧ ∀ dx, H dx = none → dx ≠ a → Q .non (upd (upd (upd H dx (exd dx [(f1, v1)])) a (exo a C (some dx))) dx (exd dx [(f2, v2), (f1, v1)]))
end
theorem init2_ok {P : Program} {w : World} {K : PySem.W.Frag} {mg : Str → Option Value} {base : Heap} {x qual sn n1 n2 f1 f2 : Str} {st : Stmt} {f : Addr} {fd : FuncData} {k : Nat} {C : Addr} (F : Fun K x qual st f fd) (S : FnScope [sn, n1, n2] [sn, n1, n2] (defScope st)) (T : OexC K C) (h1 : PySem.W.findIn K (.ref C) f1 = some none) (h2 : PySem.W.findIn K (.ref C) f2 = some none)
    (hb : ∀ (cdv : Value) (A : Around) (outer : List PySem.Env) (s : Shared) (H : Hp) (E : XK), PSs (cxOf (L2.CX P w) P w K mg base [sn, n1, n2] qual (defScope st) f cdv A outer s H E) (defBody st) (tSeq (tDrop (tVeI K (tCons (tVar 0) (tCons (tVar 1) (tCons (tVar 2) tNil))))) (tSeq (tOst K f1 (tVar 0) (tVar 1)) (tOst K f2 (tVar 0) (tVar 2))))) :
    FnOk P w K mg base (L2.CX P w) (k + 1) f fd [sn, n1, n2] (sp2 C f1 f2) := by
  refine Fun.okX F S (fun vs H Q E h => ?_) fun cdv A outer s H vs Q E _ h => ?_
  · obtain ⟨a, v1, v2, rfl, _⟩ := h
    rfl
  · obtain ⟨a, v1, v2, rfl, ha, q⟩ := h
    refine ⟨_, hb cdv A outer s H E, .ref a, rfl, v1, rfl, v2, rfl, a, C, [v1, v2], rfl, Nat.le_of_ble_eq_true rfl, T, ha, v1, rfl, .ref a, rfl, a, C, rfl, T, h1, .inl ⟨ha, fun dx nd hda => ⟨v2, rfl, .ref a, rfl, a, C, rfl, T, h2, .inr ⟨dx, [(f1, v1)], upd_same, ?_, Nat.le_of_ble_eq_true rfl, q dx nd hda⟩⟩⟩⟩
    rw [upd_ne hda, upd_same]
section
variable {X : Cx} {M : Lm} {W : WX}
structure Ini2 (P : Program) (w : World) (K : PySem.W.Frag) (M : Lm) (mg : Str → Option Value) (base : Heap) (k j : Nat) (f1 f2 : Str) : Prop where
  oex : OexC K (M.cls k)
  fn : ∃ (fI : Addr) (fd : FuncData) (sn n1 n2 : Str), PySem.W.findIn K (.ref (M.cls k)) "__init__" = some (some (.ref fI)) ∧ PySem.W.typeIn K (.ref fI) = some (.type "function") ∧ FnOk P w K mg base (L2.CX P w) j fI fd [sn, n1, n2] (sp2 (M.cls k) f1 f2) ∧ Binds K fd [sn, n1, n2] []
  fld : M.fld k = [f2, f1]
theorem Ini2.of {P : Program} {w : World} {K : PySem.W.Frag} {M : Lm} {mg : Str → Option Value} {base : Heap} {i : Nat} {fI : Addr} {qual sn n1 n2 f1 f2 : Str} {st : Stmt} {fd : FuncData} (ox : OexC K (M.cls i)) (fi : PySem.W.findIn K (.ref (M.cls i)) "__init__" = some (some (.ref fI))) (ti : PySem.W.typeIn K (.ref fI) = some (.type "function")) (F : Fun K "__init__" qual st fI fd) (S : FnScope [sn, n1, n2] [sn, n1, n2] (defScope st)) (no1 : PySem.W.findIn K (.ref (M.cls i)) f1 = some none) (no2 : PySem.W.findIn K (.ref (M.cls i)) f2 = some none) (bi : Binds K fd [sn, n1, n2] []) (fl : M.fld i = [f2, f1])
    (hb : ∀ (cdv : Value) (A : Around) (outer : List PySem.Env) (s : Shared) (H : Hp) (E : XK), PSs (cxOf (L2.CX P w) P w K mg base [sn, n1, n2] qual (defScope st) fI cdv A outer s H E) (defBody st) (tSeq (tDrop (tVeI K (tCons (tVar 0) (tCons (tVar 1) (tCons (tVar 2) tNil))))) (tSeq (tOst K f1 (tVar 0) (tVar 1)) (tOst K f2 (tVar 0) (tVar 2))))) : Ini2 P w K M mg base i 1 f1 f2 :=
  ⟨ox, ⟨fI, fd, sn, n1, n2, fi, ti, init2_ok (k := 0) F S ox no1 no2 hb, bi⟩, fl⟩
structure FldI (K : PySem.W.Frag) (M : Lm) (n : Str) (k i : Nat) : Prop where
  xf : XfC K (M.cls k)
  no : PySem.W.findIn K (.ref (M.cls k)) n = some none
  at_ : ∀ (vs : List V) (x : V), vs[i]? = some x → ((M.fld k).zip vs).lookup n = some x
end
section
variable {S : Sto} {N B C : Env → Sto → Prop} {T R : D → Sto → Prop} {X : D → Env → Sto → Prop} {E : D → Sto → Prop} {env : Env} {g g1 g2 : Env → Sto → Res D} {k : Nat}
end
end Sm
namespace PySem
open PySem PySem.Spec PyProof.Rows
section
variable {prog : Program} {w : World} {A : Around} {E : Value → Shared → Prop} {s : Shared} {a : Int} {t : Tok}
end
end PySem
namespace Sm
open PySem PySem.Spec PyProof.Rows L2
section
variable {X : Cx} {M : Lm} {W : WX}
end
section
variable {S : Sto} {R : D → Sto → Prop} {E : D → Sto → Prop}
end
end Sm
namespace Sm
open PySem PySem.Spec PyProof.Rows L2
section
variable {X : Cx} {M : Lm} {W : WX}
end
section
variable {S : Sto} {N B C : Env → Sto → Prop} {T : D → Sto → Prop} {X : D → Env → Sto → Prop} {env : Env} {f : Env → Sto → Res D}
end
end Sm
namespace Sm
open PySem PySem.Spec PyProof.Rows L2
section
variable {X : Cx} {M : Lm} {W : WX}
end
section
variable {S : Sto} {R : D → Sto → Prop} {E : D → Sto → Prop} {N B C : Env → Sto → Prop} {T : D → Sto → Prop} {X : D → Env → Sto → Prop} {env : Env} {o i e f g : Env → Sto → Res D}
end
end Sm
namespace Sm
open PySem PySem.Spec PyProof.Rows L2
section
variable {X : Cx} {M : Lm} {W : WX}
end
section
variable {S : Sto} {R : D → Sto → Prop} {E : D → Sto → Prop}
end
end Sm
namespace Sm
open PySem PySem.Spec PyProof.Rows L2 HT
section
variable {prog : Program} {w : World} {A : Around} {E : Value → Shared → Prop} {s : Shared}
end
section
variable {X : Cx} {M : Lm} {W : WX} {K : PySem.W.Frag} {z : Sg}
end
section
variable {S : Sto} {env : Env} {f : Env → Sto → Res D} {R : D → Sto → Prop} {E : D → Sto → Prop}
end
end Sm
namespace PySem
open Sem (wp)
set_option maxHeartbeats 4000000 in
theorem sm_enum_new {v : Value} {o : Obj} {H : Heap → Prop} (B : Begins v o H) :
    Meets (Builtin.«enumerate.__new__» ⟨[.type "enumerate", v], []⟩) (fun _ R s => H s.heap ∧
      R (.ok (.ret (.ref (s.heap.push o).objs.size))) { s with heap := (s.heap.push o).push { cls := .type "enumerate", data := .fields #[.none, .bool false, .ref s.heap.objs.size, rawInt 0, .none, .none] } }) :=
  .of_wp fun prog w A R s h => by
    obtain ⟨hp, g, d, tk, os⟩ := s; obtain ⟨h1, h⟩ := h
    have hsub := sub_enumerate
    have q1 : ∀ {A' : Around} {E : Value → Shared → Prop} {Q : Value → Shared → Prop}, Q (.ref hp.objs.size) ⟨hp.push o, g, d, tk, os⟩ → wpAny (model prog w) A' (pyIter v) Q E ⟨hp, g, d, tk, os⟩ :=
      fun q => B.iter prog w _ _ ⟨hp, g, d, tk, os⟩ _ h1 q
    wp_walk using q1
    refine wpAny_stack_any fun st => wpAny_pure ?_
    split
    · rename_i c _ _ _ _ _
      cases (c == Value.type "enumerate")
      · wp_walk using q1
        exact ⟨_, rfl, h⟩
      · wp_walk using q1
        exact ⟨_, rfl, h⟩
    · wp_walk using q1
      exact ⟨_, rfl, h⟩
section
variable {prog : Program} {w : World} {A : Around} {E : Value → Shared → Prop} {s : Shared}
end
end PySem
namespace Sm
open PySem PySem.Spec PyProof.Rows L2
section
variable {X : Cx} {M : Lm} {W : WX} {K : PySem.W.Frag} {z : Sg}
end
section
variable {S : Sto} {env : Env} {E : D → Sto → Prop}
def SqEA (as : List D) (S : Sto) (R : Itm → Sto → Prop) : Prop := match as with
  | [.lst l] => R ⟨enumL 0 l, none, none⟩ S
  | [.tup l] => R ⟨enumL 0 l, none, none⟩ S
  | [.ref n] => ∃ fz l, S[n]? = some (.lst fz l) ∧ R ⟨enumL 0 l, some n, some (.lst fz l)⟩ S
  | _ => False
instance r_sqea_lst {l : List D} {R : Itm → Sto → Prop} : Rule (SqEA [.lst l] S R) (R ⟨enumL 0 l, none, none⟩ S) := ⟨fun h => h⟩
instance r_sqea_tup {l : List D} {R : Itm → Sto → Prop} : Rule (SqEA [.tup l] S R) (R ⟨enumL 0 l, none, none⟩ S) := ⟨fun h => h⟩
end
end Sm
namespace Sm
open PySem PySem.Spec PyProof.Rows L2
section
variable {X : Cx} {M : Lm} {W : WX}
section
variable {elt tg iter : Expr} {ifs : List Expr} {scope : Scope} {own : List (Str × Nat)} {pos : Pos} {it : Env → Sto → Res Itm} {t : Tgt} {c : Env → Sto → Res Bool} {e : Env → Sto → Res D}
end
end
section
variable {env : Env} {S : Sto} {R : D → Sto → Prop} {E : D → Sto → Prop}
end
end Sm
namespace Sm
open PySem PySem.Spec PyProof.Rows L2
section
variable {K : PySem.W.Frag} {M : Lm} {H : Hp} {ow : Addr → Prop}
inductive Prs {α β : Type} (R : α → β → Prop) : List α → List β → Prop
  | nil : Prs R [] []
  | cons {a : α} {b : β} {as : List α} {bs : List β} : R a b → Prs R as bs → Prs R (a :: as) (b :: bs)
theorem encL_prs : ∀ {l : List D} {vs : List V}, EncL K M H ow l vs → Prs (fun v d => Enc K M H ow d v) vs l
  | _, _, .nil => .nil
  | _, _, .cons e r => .cons e (encL_prs r)
theorem Prs.mem {α β : Type} {R : α → β → Prop} : ∀ {as : List α} {bs : List β}, Prs R as bs → ∀ b ∈ bs, ∃ a, R a b
  | _, _, .nil, b, h => by cases h
  | _, _, .cons e r, b, h => by
    rcases List.mem_cons.mp h with rfl | h
    · exact ⟨_, e⟩
    · exact r.mem b h
theorem prs_vals : ∀ {l : List D} {vs : List V} {us : List Value}, Vals vs us → Prs (fun v d => Enc K M H ow d v) vs l → PySem.W.EachIs (fun u d => ∃ v, RelV v u ∧ Enc K M H ow d v) us l
  | _, _, _, .nil, .nil => .nil
  | _, _, _, .cons r rs, .cons e es => .cons ⟨_, r, e⟩ (prs_vals rs es)
theorem reads_of {X : Cx} {pins : List (Addr × Obj)} {σ : St} {s : Shared} {H : Hp} (I : Inv X pins σ H s) {M : Lm} {ow : Addr → Prop} : ∀ {l : List D} {us : List Value}, okL 59 l = true → PySem.W.EachIs (fun u d => ∃ v, RelV v u ∧ Enc X.K M H ow d v) us l → PySem.W.EachIs (fun v b => ∃ as, Reads s.heap v (py b) as) us l
  | _, _, _, .nil => .nil
  | d :: l, u :: us, h, .cons ⟨v, r, e⟩ es => by
    have h' : okD 59 d = true ∧ okL 59 l = true := by simpa [okL] using h
    exact .cons (Dp.reads I (py d) v u (enc_dp d 59 v h'.1 e) r) (reads_of I h'.2 es)
end
section
variable {X : Cx} {M : Lm} {W : WX}
end
section
variable {S : Sto} {P : D → Sto → Prop} {E : D → Sto → Prop}
end
end Sm
namespace Sm
open PySem PySem.Spec PyProof.Rows L2
section
variable {X : Cx}
end
section
variable {X : Cx} {M : Lm} {W : WX} {K : PySem.W.Frag} {z : Sg}
end
section
variable {X : Cx} {M : Lm} {W : WX} {K : PySem.W.Frag} {z : Sg}
end
section
variable {S : Sto} {P : D → Sto → Prop} {E : D → Sto → Prop}
end
end Sm
namespace Sm
open PySem PySem.Spec PyProof.Rows L2
mutual
def pyZ : D → PyData
  | .non => .none
  | .bl b => .bool b
  | .int i => .int i
  | .str s => .str ⟨s.toArray⟩
  | .tup l => .tuple (pyZL l)
  | .lst l => .list (pyZL l)
  | .dic _ => .dict []
  | .ref _ => .none
  | .exc _ _ => .none
  | .cls _ => .none
  | .ty _ => .none
  | .fn => .none
def pyZL : List D → List PyData
  | [] => []
  | d :: l => pyZ d :: pyZL l
end
mutual
def okZ : Nat → D → Bool
  | _, .non => true
  | _, .bl _ => true
  | _, .int _ => true
  | _, .str s => cp s
  | _, .dic [] => true
  | n + 1, .tup l => okZL n l
  | n + 1, .lst l => okZL n l
  | _, _ => false
def okZL : Nat → List D → Bool
  | _, [] => true
  | n, d :: l => okZ n d && okZL n l
end
mutual
def rlenZ (B : Nat) : D → Nat
  | .non => 4
  | .bl _ => 5
  | .int _ => B + 1
  | .str s => 10 * s.length + 2
  | .lst l => rlenZL B l + 2
  | .tup l => rlenZL B l + 3
  | _ => 2
def rlenZL (B : Nat) : List D → Nat
  | [] => 0
  | d :: l => rlenZ B d + 2 + rlenZL B l
end
mutual
theorem depthZ : ∀ (d : D) (n : Nat), okZ n d = true → (pyZ d).depth ≤ n + 1
  | .non, n, _ => by simp [pyZ, PyData.depth]
  | .bl _, n, _ => by simp [pyZ, PyData.depth]
  | .int _, n, _ => by simp [pyZ, PyData.depth]
  | .str _, n, _ => by simp [pyZ, PyData.depth]
  | .dic [], n, _ => by simp [pyZ, PyData.depth, PyData.depthKv]
  | .dic (_ :: _), n, h => by cases n <;> simp [okZ] at h
  | .tup l, 0, h => by simp [okZ] at h
  | .tup l, n + 1, h => by
    have h : okZL n l = true := by simpa [okZ] using h
    have := depthZL l n h
    simp only [pyZ, PyData.depth]
    omega
  | .lst l, 0, h => by simp [okZ] at h
  | .lst l, n + 1, h => by
    have h : okZL n l = true := by simpa [okZ] using h
    have := depthZL l n h
    simp only [pyZ, PyData.depth]
    omega
  | .ref _, n, h => by cases n <;> simp [okZ] at h
  | .exc _ _, n, h => by cases n <;> simp [okZ] at h
  | .cls _, n, h => by cases n <;> simp [okZ] at h
  | .ty _, n, h => by cases n <;> simp [okZ] at h
  | .fn, n, h => by cases n <;> simp [okZ] at h
theorem depthZL : ∀ (l : List D) (n : Nat), okZL n l = true → PyData.depthAll (pyZL l) ≤ n + 1
  | [], n, _ => by simp [pyZL, PyData.depthAll]
  | d :: l, n, h => by
    have h : okZ n d = true ∧ okZL n l = true := by simpa [okZL] using h
    have h1 := depthZ d n h.1
    have h2 := depthZL l n h.2
    simp only [pyZL, PyData.depthAll]
    omega
end
section
variable {X : Cx} {M : Lm} {W : WX} {pins : List (Addr × Obj)} {σ : St} {H : Hp} {s : Shared} {ow : Addr → Prop}
theorem dic_at (I : Inv X pins σ H s) {a : Addr} {kvs : List (Key × V)} (h : H a = some (.dK kvs)) (e : kvs = []) : (a == sysModules) = false ∧ ∃ o es ep, s.heap.get? a = some o ∧ o.cls = .type "dict" ∧ o.data = .dict es ep ∧ es.toList = [] := by
  obtain ⟨_, hs, vs, rel, o, es, ep, h1, h2, h3, _, h4, _⟩ := dk_of I.hok h
  subst e
  cases rel
  refine ⟨hs, o, es, ep, h1, h2.1, h3, ?_⟩
  have := h4.length
  exact List.eq_nil_of_length_eq_zero this
mutual
theorem Enc.shows (I : Inv X pins σ H s) : ∀ (d : D) (n : Nat) (v : V) (u : Value), Enc X.K M H ow d v → okZ n d = true → RelV v u → (pyZ d).showable = true → (pyZ d).shown.length ≤ sizeLine →
    ∃ as bs, Reads s.heap u (pyZ d) as ∧ ReadAtMost s.heap (pyZ d).depth bs ∧ ReprK X.prog X.w bs s.heap (pyZ d).depth u (pyZ d).shown
  | .non, _, _, _, q, _, r, _, _ => by
    cases q
    cases r
    refine ⟨_, [], Reads.none, (fun _ h => nomatch h), ?_⟩
    simp only [pyZ, PyData.shown]
    exact .of_is ReprIs.none _ _ _
  | .bl b, _, _, _, q, _, r, _, _ => by
    cases q
    cases r
    refine ⟨_, [], Reads.bool b, (fun _ h => nomatch h), ?_⟩
    simp only [pyZ, PyData.shown]
    exact .of_is (ReprIs.bool b) _ _ _
  | .int i, _, _, _, q, _, r, hs, _ => by
    cases q
    obtain ⟨t, rfl⟩ := r
    refine ⟨_, [], Reads.int i t, (fun _ h => nomatch h), ?_⟩
    simp only [pyZ, PyData.shown]
    exact .of_is (ReprIs.int t (by simpa [pyZ, PyData.showable] using hs)) _ _ _
  | .str x, _, _, _, q, _, r, _, hz => by
    cases q
    obtain ⟨t, rfl⟩ := r
    refine ⟨_, [], Reads.str _ t, (fun _ h => nomatch h), ?_⟩
    simp only [pyZ, PyData.shown]
    exact .of_is (ReprIs.str _ t (by simpa only [pyZ, PyData.shown] using hz)) _ _ _
  | .tup l, 0, _, _, _, h, _, _, _ => by simp [okZ] at h
  | .tup l, n + 1, _, _, q, h, r, hs, hz => by
    have h : okZL n l = true := by simpa [okZ] using h
    have hs : PyData.showableAll (pyZL l) = true := hs
    have hz : (tupleText (PyData.shownAll (pyZL l))).length ≤ sizeLine := hz
    cases q with
    | @tup a _ vs hq _ ql =>
      cases (show _ = Value.ref a from r)
      obtain ⟨its, rv, ⟨o, ho, hc, k, hd⟩, _⟩ := I.tuple hq
      obtain ⟨as, bs, r1, r2, r3⟩ := EncL.shows I l n vs its ql h rv hs fun t ht => Nat.le_trans (tupleText_mem_le ht) hz
      have rd : Reads s.heap (.ref a) (.tuple (pyZL l)) _ := Reads.tuple ho hc hd r1
      have hna : a ∉ bs := not_mem_of_deeper rd (by simp only [PyData.depth]; omega) r2
      refine ⟨_, a :: bs, rd, ReadAtMost.cons rd (Nat.le_succ (PyData.depthAll (pyZL l))) r2, ?_⟩
      simp only [pyZ, PyData.depth, PyData.shown]
      exact ReprK.tuple ho hc hd hna r3
  | .lst l, 0, _, _, _, h, _, _, _ => by simp [okZ] at h
  | .lst l, n + 1, _, _, q, h, r, hs, hz => by
    have h : okZL n l = true := by simpa [okZ] using h
    have hs : PyData.showableAll (pyZL l) = true := hs
    have hz : (listText (PyData.shownAll (pyZL l))).length ≤ sizeLine := hz
    cases q with
    | @lst a _ vs hq ql =>
      cases (show _ = Value.ref a from r)
      obtain ⟨its, rv, ⟨o, k, ho, hc, _, hd⟩, _⟩ := I.list hq.rl.sq
      obtain ⟨as, bs, r1, r2, r3⟩ := EncL.shows I l n vs its ql h rv hs fun t ht => Nat.le_trans (listText_mem_le ht) hz
      have rd : Reads s.heap (.ref a) (.list (pyZL l)) _ := Reads.list ho hc hd r1
      have hna : a ∉ bs := not_mem_of_deeper rd (by simp only [PyData.depth]; omega) r2
      refine ⟨_, a :: bs, rd, ReadAtMost.cons rd (Nat.le_succ (PyData.depthAll (pyZL l))) r2, ?_⟩
      simp only [pyZ, PyData.depth, PyData.shown]
      cases its with
      | nil =>
        cases l with
        | nil =>
          show ReprK _ _ _ _ _ _ (listText [])
          rw [listText_nil]
          exact ReprK.listEmpty ho hc hd
        | cons x l => cases r1
      | cons y its => exact ReprK.list ho hc hd hna (by simpa using r3.length_eq) (fun i y e => r3.item i y (by simpa using e))
  | .dic [], _, _, _, q, _, r, _, _ => by
    cases q with
    | @dic a _ kvs hq _ ql =>
      cases ql
      cases (show _ = Value.ref a from r)
      obtain ⟨hs, o, es, ep, ho, hc, hd, e0⟩ := dic_at I hq rfl
      have rd : Reads s.heap (.ref a) (.dict []) _ := Reads.dict (as := []) (bs := []) ho hc hd (by rw [e0]; exact .nil) (by rw [e0]; exact .nil)
      refine ⟨_, [a], rd, ReadAtMost.cons rd (Nat.zero_le _) (fun _ h => nomatch h), ?_⟩
      simp only [pyZ, PyData.depth, PyData.shown, PyData.depthKv, PyData.shownKv]
      exact ReprK.dict ho hc hd hs (fun h => nomatch h) (by rw [e0]; exact .nil)
  | .dic (_ :: _), n, _, _, _, h, _, _, _ => by cases n <;> simp [okZ] at h
  | .ref _, n, _, _, _, h, _, _, _ => by cases n <;> simp [okZ] at h
  | .exc _ _, n, _, _, _, h, _, _, _ => by cases n <;> simp [okZ] at h
  | .cls _, n, _, _, _, h, _, _, _ => by cases n <;> simp [okZ] at h
  | .ty _, n, _, _, _, h, _, _, _ => by cases n <;> simp [okZ] at h
  | .fn, n, _, _, _, h, _, _, _ => by cases n <;> simp [okZ] at h
theorem EncL.shows (I : Inv X pins σ H s) : ∀ (l : List D) (n : Nat) (vs : List V) (us : List Value), EncL X.K M H ow l vs → okZL n l = true → Vals vs us → PyData.showableAll (pyZL l) = true → (∀ t ∈ PyData.shownAll (pyZL l), t.length ≤ sizeLine) →
    ∃ as bs, ReadsAll s.heap us (pyZL l) as ∧ ReadAtMost s.heap (PyData.depthAll (pyZL l)) bs ∧ ReprAllK X.prog X.w bs s.heap (PyData.depthAll (pyZL l)) us (PyData.shownAll (pyZL l))
  | [], _, _, _, q, _, r, _, _ => by
    cases q
    cases r
    exact ⟨_, [], .nil, (fun _ h => nomatch h), .nil⟩
  | d :: l, n, _, _, q, h, r, hs, hz => by
    have h : okZ n d = true ∧ okZL n l = true := by simpa [okZL] using h
    have hs : (pyZ d).showable = true ∧ PyData.showableAll (pyZL l) = true := by simpa [pyZL, PyData.showableAll] using hs
    cases q with
    | cons q1 q2 =>
      cases r with
      | cons v1 v2 =>
        obtain ⟨as1, bs1, a1, a2, a3⟩ := Enc.shows I d n _ _ q1 h.1 v1 hs.1 (hz _ (by simp only [pyZL, PyData.shownAll]; exact List.mem_cons_self ..))
        obtain ⟨as2, bs2, c1, c2, c3⟩ := EncL.shows I l n _ _ q2 h.2 v2 hs.2 (fun t ht => hz t (by simp only [pyZL, PyData.shownAll]; exact List.mem_cons_of_mem _ ht))
        refine ⟨_, bs1 ++ bs2, .cons a1 c1, ?_, ?_⟩
        · simp only [pyZL, PyData.depthAll]
          exact (a2.mono (Nat.le_max_left _ _)).append (c2.mono (Nat.le_max_right _ _))
        · simp only [pyZL, PyData.depthAll, PyData.shownAll]
          exact .cons ((a3.more fun b hb => List.mem_append_left _ hb).level_le (Nat.le_max_left _ _)) (c3.more_le (fun b hb => List.mem_append_right _ hb) (Nat.le_max_right _ _))
end
end
section
variable {X : Cx} {M : Lm} {W : WX}
end
mutual
theorem shown_leZ (B : Nat) (hB : 0 < B) (hB2 : B ≤ 577) : ∀ (d : D) (n : Nat), okZ n d = true → okI B d = true → (pyZ d).shown.length ≤ rlenZ B d ∧ (pyZ d).showable = true
  | .non, n, _, k => shown_le B hB hB2 .non n (by cases n <;> rfl) k
  | .bl b, n, _, k => shown_le B hB hB2 (.bl b) n (by cases n <;> rfl) k
  | .int i, n, _, k => shown_le B hB hB2 (.int i) n (by cases n <;> rfl) k
  | .str s, n, h, k => by
    have h' : cp s = true := by simpa [okZ] using h
    exact shown_le B hB hB2 (.str s) n (by cases n <;> exact h') k
  | .lst l, 0, h, _ => by simp [okZ] at h
  | .lst l, n + 1, h, k => by
    have h : okZL n l = true := by simpa [okZ] using h
    have k : okIL B l = true := by simpa [okI] using k
    obtain ⟨h1, h2⟩ := shownL_leZ B hB hB2 l n h k
    refine ⟨?_, h2⟩
    have t := textFrom_le (PyData.shownAll (pyZL l)) 0 "["
    have e1 : (("[" : String) : Str).length = 1 := rfl
    have e2 : (("]" : String) : Str).length = 1 := rfl
    have e3 : (pyZ (.lst l)).shown.length = (textFrom 0 "[" (PyData.shownAll (pyZL l))).length + (("]" : String) : Str).length := strLen_app _ _
    have e4 : rlenZ B (.lst l) = rlenZL B l + 2 := rfl
    omega
  | .tup l, 0, h, _ => by simp [okZ] at h
  | .tup l, n + 1, h, k => by
    have h : okZL n l = true := by simpa [okZ] using h
    have k : okIL B l = true := by simpa [okI] using k
    obtain ⟨h1, h2⟩ := shownL_leZ B hB hB2 l n h k
    refine ⟨?_, h2⟩
    have t := join_le (PyData.shownAll (pyZL l))
    have e1 : (("(" : String) : Str).length = 1 := rfl
    have e2 : ((if (PyData.shownAll (pyZL l)).length == 1 then ",)" else ")" : String) : Str).length ≤ 2 := by
      split
      · exact Nat.le_refl _
      · exact Nat.le_succ _
    have e3 : (pyZ (.tup l)).shown.length = (("(" : Str) ++ Str.join ", " (PyData.shownAll (pyZL l))).length + ((if (PyData.shownAll (pyZL l)).length == 1 then ",)" else ")" : String) : Str).length := strLen_app _ _
    have e5 := strLen_app ("(" : Str) (Str.join ", " (PyData.shownAll (pyZL l)))
    have e4 : rlenZ B (.tup l) = rlenZL B l + 3 := rfl
    omega
  | .dic l, n, h, _ => by
    cases l with
    | nil => exact ⟨by show (2 : Nat) ≤ 2; decide, rfl⟩
    | cons _ _ => cases n <;> simp [okZ] at h
  | .ref x, n, h, _ => by cases n <;> simp [okZ] at h
  | .exc x y, n, h, _ => by cases n <;> simp [okZ] at h
  | .cls x, n, h, _ => by cases n <;> simp [okZ] at h
  | .ty x, n, h, _ => by cases n <;> simp [okZ] at h
  | .fn, n, h, _ => by cases n <;> simp [okZ] at h
theorem shownL_leZ (B : Nat) (hB : 0 < B) (hB2 : B ≤ 577) : ∀ (l : List D) (n : Nat), okZL n l = true → okIL B l = true → ((PyData.shownAll (pyZL l)).map fun t => t.length + 2).sum ≤ rlenZL B l ∧ PyData.showableAll (pyZL l) = true
  | [], n, _, _ => ⟨Nat.le_refl _, rfl⟩
  | d :: l, n, h, k => by
    have h : okZ n d = true ∧ okZL n l = true := by simpa [okZL] using h
    have k : okI B d = true ∧ okIL B l = true := by simpa [okIL] using k
    obtain ⟨h1, h2⟩ := shown_leZ B hB hB2 d n h.1 k.1
    obtain ⟨h3, h4⟩ := shownL_leZ B hB hB2 l n h.2 k.2
    constructor
    · have e : ((PyData.shownAll (pyZL (d :: l))).map fun t => t.length + 2).sum = (pyZ d).shown.length + 2 + ((PyData.shownAll (pyZL l)).map fun t => t.length + 2).sum := rfl
      have e2 : rlenZL B (d :: l) = rlenZ B d + 2 + rlenZL B l := rfl
      omega
    · show ((pyZ d).showable && PyData.showableAll (pyZL l)) = true
      rw [h2, h4]
      rfl
end
section
variable {E : D → Sto → Prop} {S : Sto} {R : D → Sto → Prop}
end
end Sm
namespace Sm
open PySem PySem.Spec PyProof.Rows L2
def k2 : D → Option (Int × Int)
  | .tup (.int a :: .int b :: _ :: _) => some (a, b)
  | _ => none
structure Lam1 (scope : Scope) (x : Str) : Prop where
  kind : scope.kind = .function
  co : scope.isCoroutine = false
  gen : scope.isGenerator = false
  cell : ∀ y ∈ scope.names, y.2 ≠ .cell
  free : ∀ y ∈ scope.names, y.2 ≠ .free
  loc : scope.names.lookup x = some .local
section
variable {prog : Program} {w : World} {A : Around} {s : Shared} {f t c' : Addr} {q x : Str} {params : Arguments} {scope : Scope} {pm ctv : Value} {items : List Value} {k : Nat} {p1 p2 p3 pos : Pos} {a b : Int}
end
section
variable {X : Cx} {M : Lm} {W : WX}
end
section
variable {S : Sto} {env : Env} {f : Env → Sto → Res D} {R : D → Sto → Prop} {E : D → Sto → Prop}
end
end Sm
namespace Sm
open PySem PySem.Spec PyProof.Rows L2
section
variable {X : Cx} {M : Lm} {W : WX} {K : PySem.W.Frag} {z : Sg} {pins : List (Addr × Obj)} {σ : St} {H : Hp} {s : Shared}
end
section
variable {S : Sto} {env : Env} {f : Env → Sto → Res D} {R : D → Sto → Prop} {E : D → Sto → Prop}
end
end Sm
namespace Sm
open PySem PySem.Spec PyProof.Rows L2
section
variable {X : Cx} {M : Lm} {W : WX}
end
section
variable {S : Sto} {P : D → Sto → Prop} {E : D → Sto → Prop}
end
end Sm
namespace Sm
open PySem PySem.Spec PyProof.Rows L2
section
variable {X : Cx} {M : Lm} {W : WX}
end
section
variable {S : Sto} {P : D → Sto → Prop} {E : D → Sto → Prop}
end
end Sm
namespace Sm
open PySem PySem.Spec PyProof.Rows L2
section
variable {X : Cx} {M : Lm} {W : WX}
def TgsA (K : PySem.W.Frag) (M : Lm) (g : TGs) (is : List Nat) : Prop := ∀ (z : Sg) (env : Env) (σ : St) (l : List D) (vs : List V) (Q : St → Hp → Prop), SOk K M z → EnvOk K M z env σ → EncAs K M z l vs → l.length = is.length →
  (∀ σ', EnvOk K M z (parF.putAll is l env) σ' → Q σ' z.H) → g vs σ z.H Q
structure SGsA (X : Cx) (M : Lm) (es : List Expr) (is : List Nat) : Prop where
  ex : ∃ g, PGs X es g ∧ TgsA X.K M g is
end
end Sm
namespace Sm
open PySem PySem.Spec PyProof.Rows L2
section
variable {X : Cx} {M : Lm} {W : WX} {K : PySem.W.Frag} {z : Sg}
end
end Sm
namespace Sm
open PySem PySem.Spec PyProof.Rows L2
structure DefM (P : Program) (w : World) (K : PySem.W.Frag) (M : Lm) (mg : Str → Option Value) (base : Heap) (c : Nat) (x : Str) (k : Nat) (ps : List Str) (m : Fn) : Prop where
  ex : ∃ (f : Addr) (fd : FuncData), FnS P w K M mg base k f fd ps m ∧ Meth K (M.cls c) x f ∧ Binds K fd ps []
structure DefI (P : Program) (w : World) (K : PySem.W.Frag) (M : Lm) (mg : Str → Option Value) (base : Heap) (c : Nat) (k : Nat) (ps : List Str) (m : Fn) : Prop where
  ex : ∃ (f : Addr) (fd : FuncData), FnS P w K M mg base k f fd ps m ∧ L2.Mk K (M.cls c) f ∧ Binds K fd ps []
structure KnM (K : PySem.W.Frag) (x q : Str) (st : Stmt) (ps : List Str) (f : Addr) (fd : FuncData) : Prop where
  bi : Binds K fd ps []
  fn : Fun K x q st f fd
section
variable {X : Cx} {M : Lm} {W : WX} {K : PySem.W.Frag} {z : Sg}
end
end Sm
namespace Sm
open PySem PySem.Spec PyProof.Rows L2
section
variable {X : Cx} {M : Lm} {W : WX} {K : PySem.W.Frag} {z : Sg}
end
section
variable {S : Sto} {P : D → Sto → Prop} {E : D → Sto → Prop} {N B C : Env → Sto → Prop} {T : D → Sto → Prop} {X : D → Env → Sto → Prop} {env : Env} {f o e : Env → Sto → Res D} {g : Env → Sto → Res (List D)}
end
end Sm
namespace Sm
open PySem PySem.Spec PyProof.Rows L2
section
variable {X : Cx} {M : Lm} {W : WX}
end
section
variable {S : Sto} {N B C : Env → Sto → Prop} {T : D → Sto → Prop} {X : D → Env → Sto → Prop} {env : Env}
end
end Sm
namespace Sm
open PySem PySem.Spec PyProof.Rows L2
section
variable {X : Cx} {M : Lm} {W : WX}
end
section
variable {S : Sto} {R : D → Sto → Prop} {E : D → Sto → Prop}
end
end Sm
namespace Sm
open PySem PySem.Spec PyProof.Rows L2
section
variable {X : Cx} {M : Lm} {W : WX} {K : PySem.W.Frag} {z : Sg}
end
section
variable {S : Sto} {R : D → Sto → Prop} {E : D → Sto → Prop} {env : Env} {f g : Env → Sto → Res D}
end
end Sm
namespace Sm
open PySem PySem.Spec PyProof.Rows L2
def seekT : Nat → SetTable → Array Int → Int → SetTable.Probe → Option Nat
  | 0, _, _, _, _ => none
  | n + 1, t, hs, h, p => match t.probe (fun i => (hs[i]?).getD 0) h p with
    | some (.empty j none) => some j
    | some (.candidate j i next) => (match t.slot j with
      | .live i2 => if i2 = i ∧ i < hs.size then seekT n t hs h next else none
      | _ => none)
    | _ => none
def addT (t : SetTable) (hs : Array Int) (h : Int) : Option (SetTable × Array Int) :=
  if (t.fits hs.size && (!t.gaveWay && decide (hs.size < 1000))) = true then
    match seekT 1000 t hs h (t.probeStart h) with
    | some j =>
      let t1 := (t.put j).1
      let hs1 := SetTable.insertAt hs (t.put j).2 h
      if t1.tooFull = true then
        (if (t1.fits hs1.size && decide (SetTable.sizeAbove (SetTable.grown (hs.size + 1)) ≤ sizeLine)) = true then
          match t1.relaid hs1 (SetTable.grown (hs.size + 1)) with
          | some (t2, order) => if (order.filterMap fun i => hs1[i]?).size = hs1.size then some (t2, order.filterMap fun i => hs1[i]?) else none
          | none => none
        else none)
      else some (t1, hs1)
    | none => none
  else none
def KeysIn (H : Heap) (es : Array (Int × Value)) (Ks : List NestedKey) : Prop := ∀ e ∈ es.toList, ∃ k ∈ Ks, ∃ y, e.2 = .ref y ∧ NestedIs H k (.ref y)
def TabAt (H h0 : Heap) (a : Addr) (t : SetTable) (hs : Array Int) (Ks : List NestedKey) : Prop := ∃ o es ep, H.get? a = some o ∧ o.ExactSet ∧ o.data = .set es ep t ∧ es.map (·.1) = hs ∧ KeysIn h0 es Ks
def nkB : Nat → NestedKey → Bool
  | _, .num _ => true
  | n + 1, .tup ks => ks.all (nkB n)
  | _, _ => false
section
variable {P : Program} {w : World} {A : Around} {E : Value → Shared → Prop} {s : Shared}
theorem hbv : ∀ (n : Nat) {k : NestedKey} {v : Value} {s : Shared} {Q : Bool → Shared → Prop}, nkB n k = true → NestedIs s.heap k v → Q true s → wpAny (model P w) A (hashByValue n v) Q E s := by
  intro n
  induction n with
  | zero =>
    intro k v s Q hk hv q
    cases hv with
    | none => cases hk
    | text x t => cases hk
    | tup a b c d => cases hk
    | bool e =>
      rw [hashByValue_scannable _ rfl]
      exact wpAny_pure q
    | int i t =>
      rw [hashByValue_scannable _ rfl]
      exact wpAny_pure q
  | succ n ih =>
    intro k v s Q hk hv q
    cases hv with
    | none => cases hk
    | text x t => cases hk
    | bool e =>
      rw [hashByValue_scannable _ rfl]
      exact wpAny_pure q
    | int i t =>
      rw [hashByValue_scannable _ rfl]
      exact wpAny_pure q
    | @tup a o vs m ks ho hc hd hall =>
      rw [hashByValue.eq_12]
      refine wpAny_bind (wpAny_specialOf (T := "tuple") ⟨o, ho, hc⟩ F.slot_tuple_hash.lookup ?_)
      dsimp only
      refine wpAny_bind ?_
      unfold seqItems?
      refine wpAny_bind (wpAny_load' ho ?_)
      rw [hd]
      refine wpAny_pure ?_
      refine wpAny_bind ?_
      refine wpAny_forIn_array' _ (fun rest b s1 => s1 = s ∧ b = (none, ()) ∧ ∃ ks, NestedAll s.heap ks rest ∧ ks.all (nkB n) = true) _ ?_ ?_ _ _ ⟨rfl, rfl, ks, hall, hk⟩
      · rintro x rest b s1 ⟨rfl, rfl, ks, ha, hk⟩
        cases ha with
        | cons h1 h2 =>
          rw [List.all_cons, Bool.and_eq_true] at hk
          refine wpAny_bind (ih hk.1 h1 ?_)
          exact wpAny_pure ⟨rfl, rfl, _, h2, hk.2⟩
      · rintro b s1 ⟨rfl, rfl, _⟩
        exact wpAny_pure q

theorem ocs : ∀ (n : Nat) {k : NestedKey} {v : Value} {s : Shared} {Q : Bool → Shared → Prop}, nkB n k = true → NestedIs s.heap k v → Q false s → wpAny (model P w) A (ofAClassStatement n v) Q E s := by
  intro n
  induction n with
  | zero =>
    intro k v s Q hk hv q
    cases hv with
    | none => cases hk
    | text x t => cases hk
    | tup a b c d => cases hk
    | bool e =>
      rw [ofAClassStatement.eq_def]
      exact wpAny_pure q
    | int i t =>
      rw [ofAClassStatement.eq_def]
      exact wpAny_pure q
  | succ n ih =>
    intro k v s Q hk hv q
    cases hv with
    | none => cases hk
    | text x t => cases hk
    | bool e =>
      rw [ofAClassStatement.eq_def]
      exact wpAny_pure q
    | int i t =>
      rw [ofAClassStatement.eq_def]
      exact wpAny_pure q
    | @tup a o vs m ks ho hc hd hall =>
      rw [ofAClassStatement.eq_def]
      dsimp only
      refine wpAny_bind (wpAny_typeOf (T := "tuple") ⟨o, ho, hc⟩ ?_)
      dsimp only
      rw [if_pos (by decide)]
      refine wpAny_bind (wpAny_pure ?_)
      rw [if_neg (by decide)]
      refine wpAny_bind ?_
      unfold seqItems?
      refine wpAny_bind (wpAny_load' ho ?_)
      rw [hd]
      refine wpAny_pure ?_
      dsimp only
      refine wpAny_bind ?_
      refine wpAny_forIn_array' _ (fun rest b s1 => s1 = s ∧ b = (none, ()) ∧ ∃ ks, NestedAll s.heap ks rest ∧ ks.all (nkB n) = true) _ ?_ ?_ _ _ ⟨rfl, rfl, ks, hall, hk⟩
      · rintro x rest b s1 ⟨rfl, rfl, ks, ha, hk⟩
        cases ha with
        | cons h1 h2 =>
          rw [List.all_cons, Bool.and_eq_true] at hk
          refine wpAny_bind (ih hk.1 h1 ?_)
          exact wpAny_pure ⟨rfl, rfl, _, h2, hk.2⟩
      · rintro b s1 ⟨rfl, rfl, _⟩
        exact wpAny_pure q
theorem nkB_depth : ∀ {n : Nat} {k : NestedKey}, nkB n k = true → k.depth ≤ n := by
  intro n
  induction n with
  | zero =>
    intro k h
    cases k <;> first | exact Nat.le_refl 0 | cases h
  | succ n ih =>
    intro k h
    cases k with
    | none => cases h
    | text x => cases h
    | num i => exact Nat.zero_le _
    | tup ks =>
      have h : ks.all (nkB n) = true := h
      have key : ∀ {l : List NestedKey}, l.all (nkB n) = true → NestedKey.depthAll l ≤ n := by
        intro l
        induction l with
        | nil => exact fun _ => Nat.zero_le _
        | cons x l il =>
          intro q
          rw [List.all_cons, Bool.and_eq_true] at q
          have a := ih q.1
          have b := il q.2
          have e : NestedKey.depthAll (x :: l) = max x.depth (NestedKey.depthAll l) := rfl
          rw [e]
          omega
      have := key h
      have e : (NestedKey.tup ks).depth = NestedKey.depthAll ks + 1 := rfl
      rw [e]
      omega
theorem seen_no {k : NestedKey} {x : Addr} {Q : Bool → Shared → Prop} (dk : nkB 8 k = true) (hk : NestedIs s.heap k (.ref x)) : ∀ (l : List Value), (∀ y ∈ l, ∃ k z, nkB 8 k = true ∧ y = .ref z ∧ NestedIs s.heap k (.ref z)) → Q false s → wpAny (model P w) A (searchCouldBeSeen (.ref x) l) Q E s := by
  intro l hl q
  unfold searchCouldBeSeen
  refine wpAny_bind ?_
  have key : ∀ (l : List Value), (∀ y ∈ l, ∃ k z, nkB 8 k = true ∧ y = .ref z ∧ NestedIs s.heap k (.ref z)) → ∀ (f : Value → Option Bool × Unit → Sem (ForInStep (Option Bool × Unit))) (Q' : Option Bool × Unit → Shared → Prop), (∀ y, (∃ k z, nkB 8 k = true ∧ y = .ref z ∧ NestedIs s.heap k (.ref z)) → ∀ R, R (.yield (none, ())) s → wpAny (model P w) A (f y (none, ())) R E s) → Q' (none, ()) s → wpAny (model P w) A (forIn l (none, ()) f) Q' E s := by
    intro l
    induction l with
    | nil =>
      intro _ f Q' _ q
      rw [List.forIn_nil]
      exact wpAny_pure q
    | cons y l il =>
      intro hl f Q' hf q
      rw [List.forIn_cons]
      refine wpAny_bind (hf y (hl y (List.mem_cons_self ..)) _ ?_)
      exact il (fun z hz => hl z (List.mem_cons_of_mem _ hz)) f Q' hf q
  refine key l hl _ _ (fun y hy R r => ?_) ?_
  · obtain ⟨k2, z, d2, rfl, h2⟩ := hy
    dsimp only
    split
    · exact wpAny_pure r
    · refine wpAny_bind ((nestedKind P w).quiet (k := k) ⟨hk, nkB_depth dk⟩ ?_)
      rw [if_neg (by decide)]
      refine wpAny_bind ((nestedKind P w).quiet (k := k2) ⟨h2, nkB_depth d2⟩ ?_)
      rw [if_neg (by decide)]
      refine wpAny_bind (ocs 8 dk hk ?_)
      rw [if_neg (by decide)]
      refine wpAny_bind (ocs 8 d2 h2 ?_)
      rw [if_neg (by decide)]
      exact wpAny_pure r
  · exact wpAny_pure q
theorem led_step {α : Type} {b : Bool} {m : Sem Bool} {k u : Sem α} {Q : α → Shared → Prop} (hm : ∀ Q' : Bool → Shared → Prop, Q' false s → wpAny (model P w) A m Q' E s) (hk : wpAny (model P w) A k Q E s) : wpAny (model P w) A (if (!b) = true then (m >>= fun x => if x = true then u else k) else k) Q E s := by
  split
  · refine wpAny_bind (hm _ ?_)
    rw [if_neg (by decide)]
    exact hk
  · exact hk
theorem seek_ok {a x : Addr} {t : SetTable} {hs : Array Int} {h : Int} {k : NestedKey} {Ks : List NestedKey} {j : Nat} {Q : SetFound → Shared → Prop} {o : Obj} {es : Array (Int × Value)} {ep : Nat} (hu : A.units + 8 < cLine) (ho : s.heap.get? a = some o) (hd : o.data = .set es ep t) (hm : es.map (·.1) = hs) (fits : t.fits es.size = true) (gw : t.gaveWay = false) (hK : KeysIn s.heap es Ks) (hb : ∀ k ∈ Ks, nkB 8 k = true) (nk : ¬ k ∈ Ks) (dk : nkB 8 k = true) (hk : NestedIs s.heap k (.ref x)) (q : Q (.free j false) s) :
    ∀ (n fuel : Nat) (stand : Option SetTable.Probe), n ≤ fuel → seekT n t hs h (stand.getD (t.probeStart h)) = some j → wpAny (model P w) A (setSearchFrom a (.ref x) h true fuel stand) Q E s := by
  intro n
  induction n with
  | zero => intro fuel stand _ e; cases e
  | succ n ih =>
    intro fuel stand hf e
    obtain ⟨fuel, rfl⟩ : ∃ m, fuel = m + 1 := ⟨fuel - 1, by omega⟩
    unfold seekT at e
    have hp2 : ∀ m, t.probe (fun i => (hs[i]?).getD 0) h (stand.getD (t.probeStart h)) = m → t.probe (fun i => (Option.map (fun x => x.1) es[i]?).getD 0) h (stand.getD (t.probeStart h)) = m := by
      intro m hp
      rw [← hp, ← hm]
      congr 1
      funext i
      rw [Array.getElem?_map]
    rw [setSearchFrom.eq_def]
    dsimp only
    refine wpAny_bind (wpAny_setState_of ho hd fits ?_)
    dsimp only
    rw [if_neg (by rw [gw]; exact nofun)]
    split at e
    · rename_i j2 hp
      injection e with e
      subst e
      generalize hq : t.probe _ _ _ = met
      have hm2 : met = some (.empty j2 none) := hq.symm.trans (hp2 _ hp)
      subst hm2
      exact wpAny_pure q
    · rename_i j2 i next hp
      generalize hq : t.probe _ _ _ = met
      have hm2 : met = some (.candidate j2 i next) := hq.symm.trans (hp2 _ hp)
      subst hm2
      dsimp only
      split at e
      · rename_i i2 hsl
        split at e
        · rename_i ci
          obtain ⟨rfl, hi⟩ := ci
          have hi2 : i2 < es.size := by rw [← hm, Array.size_map] at hi; exact hi
          refine led_step (fun Q' q' => seen_no dk hk _ (fun y hy => ?_) q') ?_
          · obtain ⟨e1, h1, rfl⟩ := List.mem_map.mp hy
            have h1 : e1 ∈ es.toList := Array.mem_toList_iff.mpr (Array.mem_filter.mp (Array.mem_toList_iff.mp h1)).1
            obtain ⟨k1, hk1, z, ez, hz⟩ := hK e1 h1
            exact ⟨k1, z, hb k1 hk1, ez, hz⟩
          · obtain ⟨k1, hk1, z, ez, hz⟩ := hK es[i2] (Array.mem_toList_iff.mpr (Array.getElem_mem hi2))
            rw [show es[i2]? = some es[i2] from Array.getElem?_eq_getElem hi2]
            rcases heq : es[i2] with ⟨e0, v0⟩
            rw [heq] at ez
            dsimp only at ez ⊢
            subst ez
            refine wpAny_bind (wpAny_holding ?_)
            refine (nestedKind P w).eqBool (x := k1) (y := k) hu ⟨hz, nkB_depth (hb k1 hk1)⟩ ⟨hk, nkB_depth dk⟩ ?_
            rw [decide_eq_false (fun z : k1 = k => nk (z ▸ hk1))]
            refine wpAny_bind (wpAny_setState_of ho hd fits ?_)
            dsimp only
            rw [if_neg (by decide)]
            have sm : t.sameMemory t.moves t.mask = some true := by
              unfold SetTable.sameMemory
              rw [if_pos (by simp)]
            rw [sm]
            dsimp only
            rw [if_pos rfl, hsl]
            dsimp only
            rw [show es[i2]? = some es[i2] from Array.getElem?_eq_getElem hi2, heq]
            dsimp only
            refine wpAny_bind (wpAny_of_eq (show isSame (Value.ref z) (Value.ref z) = pure true by unfold isSame; dsimp only; rw [if_pos (by simp)]) ?_)
            refine wpAny_bind (wpAny_pure ?_)
            rw [if_pos rfl]
            dsimp only
            rw [if_neg (by decide)]
            exact ih fuel (some next) (by omega) e
        · cases e
      · cases e
    · cases e
theorem insert_map (es : Array (Int × Value)) (p : Nat) (e : Int × Value) : (SetTable.insertAt es p e).map (·.1) = SetTable.insertAt (es.map (·.1)) p e.1 := by
  unfold SetTable.insertAt
  rw [Array.map_append, Array.map_push, Array.map_extract, Array.map_extract, Array.size_map]
theorem order_map (es : Array (Int × Value)) (order : Array Nat) : (order.filterMap fun i => es[i]?).map (·.1) = order.filterMap fun i => (es.map (·.1))[i]? := by
  rw [Array.map_filterMap]
  congr 1
  funext i
  rw [Array.getElem?_map]
theorem insert_size {α : Type} (es : Array α) (p : Nat) (e : α) : (SetTable.insertAt es p e).size = es.size + 1 := by
  unfold SetTable.insertAt
  rw [Array.size_append, Array.size_push, Array.size_extract, Array.size_extract]
  omega
theorem keys_at {H H' : Heap} {es : Array (Int × Value)} {Ks : List NestedKey} (kp : ∀ b o vs n, H.get? b = some o → o.data = .seq vs n → H'.get? b = some o) (h : KeysIn H es Ks) : KeysIn H' es Ks := fun e he => by
  obtain ⟨k, hk, y, e1, e2⟩ := h e he
  have q : NestedAll H [k] [.ref y] := .cons e2 .nil
  cases NestedAll.at kp _ _ q with
  | cons q _ => exact ⟨k, hk, y, e1, q⟩
theorem mem_insertAt {α : Type} {es : Array α} {p : Nat} {x e : α} (h : e ∈ (SetTable.insertAt es p x).toList) : e = x ∨ e ∈ es.toList := by
  unfold SetTable.insertAt at h
  rw [Array.toList_append, List.mem_append, Array.toList_push, List.mem_append, List.mem_singleton] at h
  have sub : ∀ {a b : Nat}, e ∈ (es.extract a b).toList → e ∈ es.toList := fun {a b} h => by
    rw [Array.toList_extract] at h
    exact List.mem_of_mem_drop (List.mem_of_mem_take (by simpa [List.extract_eq_take_drop, List.extract_eq_drop_take] using h))
  rcases h with (h | h) | h
  · exact .inr (sub h)
  · exact .inl h
  · exact .inr (sub h)
theorem addH_ok {h0 : Heap} {a x : Addr} {t t2 : SetTable} {hs hs2 : Array Int} {h : Int} {k : NestedKey} {Ks : List NestedKey} {Q : Bool → Shared → Prop} (hu : A.units + 8 < cLine) (ta : TabAt s.heap h0 a t hs Ks) (hold : ∀ b o, h0.get? b = some o → s.heap.get? b = some o) (e : addT t hs h = some (t2, hs2)) (hb : ∀ k ∈ Ks, nkB 8 k = true) (nk : ¬ k ∈ Ks) (dk : nkB 8 k = true) (hk0 : NestedIs h0 k (.ref x))
    (q : ∀ h', Heap.SameBut a s.heap h' → TabAt h' h0 a t2 hs2 (k :: Ks) → Q true { heap := h', gens := s.gens, drawn := s.drawn, toks := s.toks, os := s.os }) : wpAny (model P w) A (setAddHashed a (.ref x) h) Q E s := by
  obtain ⟨o, es, ep, ho, hex, hd, hm, hK0⟩ := ta
  have hsz : hs.size = es.size := by rw [← hm, Array.size_map]
  have kp : ∀ b o vs n, h0.get? b = some o → o.data = .seq vs n → s.heap.get? b = some o := fun b o _ _ e _ => hold b o e
  have hK := keys_at kp hK0
  have hk : NestedIs s.heap k (.ref x) := by
    have q : NestedAll h0 [k] [.ref x] := .cons hk0 .nil
    cases NestedAll.at kp _ _ q with
    | cons q _ => exact q
  have hK1 : ∀ p, KeysIn h0 (SetTable.insertAt es p (h, Value.ref x)) (k :: Ks) := fun p e he => by
    rcases mem_insertAt he with rfl | he
    · exact ⟨k, List.mem_cons_self .., x, rfl, hk0⟩
    · obtain ⟨k1, h1, y, e1, e2⟩ := hK0 e he
      exact ⟨k1, List.mem_cons_of_mem _ h1, y, e1, e2⟩
  unfold addT at e
  split at e
  · rename_i c
    rw [Bool.and_eq_true, Bool.and_eq_true, decide_eq_true_iff, Bool.not_eq_true'] at c
    obtain ⟨c1, c2, c3⟩ := c
    rw [hsz] at c1 c3
    split at e
    · rename_i j hp
      unfold setAddHashed
      refine wpAny_holding ?_
      rw [setAddHashedIn.eq_def]
      dsimp only
      refine wpAny_bind (wpAny_setState_of ho hd c1 ?_)
      dsimp only
      rw [if_neg (show ¬ byScan (Value.ref x) es = true by exact nofun)]
      refine wpAny_bind ?_
      unfold setSearch
      refine seek_ok hu ho hd hm c1 c2 hK hb nk dk hk ?_ 1000 100000 none (by decide) hp
      dsimp only
      refine wpAny_bind (wpAny_setState_of ho hd c1 ?_)
      dsimp only
      obtain ⟨t1, p, ep1⟩ : ∃ t1 p, t.put j = (t1, p) := ⟨_, _, rfl⟩
      rw [ep1] at e ⊢
      dsimp only at e ⊢
      have core : wpAny (model P w) A (do
          storeSet a (SetTable.insertAt es p (h, Value.ref x)) t1
          if (!false && t1.tooFull) = true then do
            setRelay a (SetTable.grown (es.size + 1))
            pure true
          else pure true) Q E s := by
        have sz1 : (SetTable.insertAt es p (h, Value.ref x)).size = es.size + 1 := insert_size ..
        have lim : (SetTable.insertAt es p (h, Value.ref x)).size ≤ sizeLine := by
          rw [sz1]
          show es.size + 1 ≤ 2 ^ 24
          omega
        have m1 : (SetTable.insertAt es p (h, Value.ref x)).map (·.1) = SetTable.insertAt hs p h := by rw [insert_map, hm]
        have hK1 := hK1 p
        refine wpAny_bind (wpAny_storeSet_of ho hd ?_ lim)
        have ho1 := store_at (es' := SetTable.insertAt es p (h, Value.ref x)) (t' := t1) ho hd
        have sb1 := Heap.SameBut.update s.heap a (Obj.putSet (SetTable.insertAt es p (h, Value.ref x)) t1)
        generalize s.heap.update a (Obj.putSet (SetTable.insertAt es p (h, Value.ref x)) t1) = H1 at ho1 sb1 ⊢
        by_cases tf : t1.tooFull = true
        · rw [if_pos tf] at e
          rw [if_pos (by rw [tf]; rfl)]
          split at e
          · rename_i cc
            rw [Bool.and_eq_true, decide_eq_true_iff] at cc
            have f1 : t1.fits (SetTable.insertAt es p (h, Value.ref x)).size = true := by
              rw [← cc.1, ← m1, Array.size_map]
            rw [hsz] at cc e
            rw [← m1] at e
            generalize SetTable.insertAt es p (h, Value.ref x) = es1 at *
            split at e
            · rename_i t3 order hr
              split at e
              · rename_i c9
                injection e with e
                injection e with e1 e2
                subst e1 e2
                rw [← order_map, Array.size_map, Array.size_map] at c9
                refine wpAny_bind ?_
                rw [setRelay.eq_1]
                refine wpAny_bind (wpAny_setState_of ho1 rfl f1 ?_)
                dsimp only
                rw [if_neg (by omega)]
                rw [hr]
                refine wpAny_bind ?_
                show wpAny (model P w) A (if ((Array.filterMap (fun i => es1[i]?) order).size != es1.size) = true then (unsupported "internal:set-table-lost-an-element" >>= fun _ => pure (Array.filterMap (fun i => es1[i]?) order, t3)) else pure (Array.filterMap (fun i => es1[i]?) order, t3)) _ _ _
                rw [if_neg (by rw [c9]; simp)]
                refine wpAny_pure ?_
                dsimp only
                refine wpAny_storeSet_of ho1 rfl ?_ (by rw [c9]; exact lim)
                have ho2 := store_at (es' := Array.filterMap (fun i => es1[i]?) order) (t' := t3) ho1 rfl
                have sb2 := Heap.SameBut.update H1 a (Obj.putSet (Array.filterMap (fun i => es1[i]?) order) t3)
                have sb3 : Heap.SameBut a s.heap (H1.update a (Obj.putSet (Array.filterMap (fun i => es1[i]?) order) t3)) := ⟨sb2.1.trans sb1.1, fun b hb => (sb2.2 b hb).trans (sb1.2 b hb)⟩
                refine wpAny_pure (q _ sb3 ⟨_, _, _, ho2, hex, rfl, ?_, fun e he => hK1 e ?_⟩)
                · rw [order_map]
                · obtain ⟨i, _, hi⟩ := Array.mem_filterMap.mp (Array.mem_toList_iff.mp he)
                  exact Array.mem_toList_iff.mpr (Array.mem_of_getElem? hi)
              · cases e
            · cases e
          · cases e
        · rw [if_neg tf] at e
          rw [if_neg (by rw [Bool.not_eq_true] at tf; rw [tf]; exact nofun)]
          injection e with e
          injection e with e1 e2
          subst e1 e2
          exact wpAny_pure (q H1 sb1 ⟨_, _, _, ho1, hex, rfl, m1, hK1⟩)
      by_cases tp : t1.plain = true
      · rw [if_pos tp]
        refine wpAny_bind (hbv 8 dk hk ?_)
        rw [if_pos rfl]
        exact core
      · rw [if_neg tp]
        refine wpAny_bind (wpAny_pure ?_)
        rw [if_pos rfl]
        exact core
    · cases e
  · cases e
def runT : List Int → SetTable → Array Int → Option (SetTable × Array Int)
  | [], t, hs => some (t, hs)
  | h :: l, t, hs => match addT t hs h with
    | some (t2, hs2) => runT l t2 hs2
    | none => none
theorem upd_tab {I : Addr} {fp wr : List Addr} {G : Array GenState → Array GenState → Prop} {n : Nat} {Pv : Nat → Value → Prop} {St : Nat → Shared → Prop} {R : Result → Shared → Prop} (W : WalksS P w A.in1 I fp wr G n Pv St) (S : Addr) (hSf : ¬ S ∈ fp) (ks : List NestedKey) (hn : n = ks.length) (h0 : Heap) (hu : A.in1.units + 8 < cLine) (hfr : ∀ b o, h0.get? b = some o → ¬ b ∈ S :: wr)
    (hval : ∀ i v, Pv i v → ∃ k x, ks[i]? = some k ∧ v = .ref x ∧ NestedIs h0 k (.ref x) ∧ nkB 8 k = true) (hnd : ks.Nodup) (hall : ∀ k ∈ ks, nkB 8 k = true) {t2 : SetTable} {hs2 : Array Int} :
    ∀ (k i : Nat) (s : Shared) (t : SetTable) (hs : Array Int) (Ks : List NestedKey), n - i = k → i ≤ n → St i s → TabAt s.heap h0 S t hs Ks → (∀ k ∈ Ks, k ∈ ks.take i) → (∀ b o, h0.get? b = some o → s.heap.get? b = some o) → runT ((ks.drop i).map (NestedKey.hash w)) t hs = some (t2, hs2) →
      (∀ s' Ks, Moved (S :: wr) G s s' → TabAt s'.heap h0 S t2 hs2 Ks → R (.ok (.ret .none)) s') → codeAny (model P w) A (Code.builtin "set.update.loop" { pos := [.ref S, .ref I] }) R s := by
  have hSw : ¬ S ∈ wr := fun h => hSf (W.sub S h)
  have hsub : ∀ b, b ∈ wr → b ∈ S :: wr := fun b hb => List.mem_cons_of_mem S hb
  have keep : ∀ {s s' : Shared} {t : SetTable} {hs : Array Int} {Ks : List NestedKey}, Moved wr G s s' → TabAt s.heap h0 S t hs Ks → TabAt s'.heap h0 S t hs Ks := fun hm ⟨o, es, ep, a, b⟩ => ⟨o, es, ep, hm.heap S o hSw a, b⟩
  intro k
  induction k with
  | zero =>
    intro i s t hs Ks hk hi hst ht hKs hold hr hR
    have hin : i = n := by omega
    subst hin
    rw [List.drop_of_length_le (by omega)] at hr
    have hr : some (t, hs) = some (t2, hs2) := hr
    injection hr with hr
    injection hr with e1 e2
    subst e1 e2
    refine codeAny_builtin PyProof.Rows.F.entry_set_update_loop ?_
    rw [Around.under_plainId PyProof.Rows.F.plain_set_update_loop]
    refine wpAny_bind (W.done s _ _ hst fun s' hm => ?_)
    exact wpAny_pure (hR s' Ks (hm.mono hsub) (keep hm ht))
  | succ k ih =>
    intro i s t hs Ks hk hi hst ht hKs hold hr hR
    have hlt : i < n := by omega
    refine codeAny_builtin PyProof.Rows.F.entry_set_update_loop ?_
    rw [Around.under_plainId PyProof.Rows.F.plain_set_update_loop]
    refine wpAny_bind (W.item i s _ _ hlt hst fun v s' hP hst' hm => ?_)
    obtain ⟨key, x, e1, rfl, e2, e3⟩ := hval i v hP
    have hd : ks.drop i = key :: ks.drop (i + 1) := by
      obtain ⟨h1, h2⟩ := List.getElem?_eq_some_iff.mp e1
      rw [← h2, List.drop_eq_getElem_cons h1]
    rw [hd] at hr
    have hr : (match addT t hs (NestedKey.hash w key) with
      | some (t2, hs2) => runT ((ks.drop (i + 1)).map (NestedKey.hash w)) t2 hs2
      | none => none) = some (t2, hs2) := hr
    cases ha : addT t hs (NestedKey.hash w key) with
    | none =>
      rw [ha] at hr
      cases hr
    | some r =>
      obtain ⟨t1, hs1⟩ := r
      rw [ha] at hr
      have hold' : ∀ b o, h0.get? b = some o → s'.heap.get? b = some o := fun b o e => hm.heap b o (fun z => hfr b o e (hsub b z)) (hold b o e)
      have e2' : NestedIs s'.heap key (.ref x) := by
        have q : NestedAll h0 [key] [.ref x] := .cons e2 .nil
        cases NestedAll.at (fun a o _ _ e _ => hold' a o e) _ _ q with
        | cons q _ => exact q
      have hni : ¬ key ∈ Ks := fun z => by
        have z := hKs key z
        have nd := hnd
        rw [← List.take_append_drop i ks, hd, List.nodup_append] at nd
        exact nd.2.2 key z key (List.mem_cons_self ..) rfl
      refine wpAny_bind (wpAny_holding ?_)
      unfold setAdd
      refine wpAny_holding (wpAny_bind ?_)
      refine (nestedKind P w).pyHash (k := key) hu ⟨e2', nkB_depth e3⟩ ?_
      refine addH_ok (s := { heap := s'.heap, gens := s'.gens, drawn := s'.drawn, toks := s'.toks + key.draws, os := s'.os }) hu (show TabAt s'.heap h0 S t hs Ks from keep hm ht) hold' ha (fun k hk => hall k (List.mem_of_mem_take (hKs k hk))) hni e3 e2 fun h' hsb ht' => ?_
      refine wpAny_pure ⟨plainId_quiet PyProof.Rows.F.plain_set_update_loop _, ?_⟩
      refine ih (i + 1) _ t1 hs1 (key :: Ks) (by omega) hlt (W.frame (i + 1) s' h' (s'.toks + key.draws) hst' (Nat.le_add_right ..) fun b hb o e => ?_) ht' (fun k hk => ?_) (fun b o e => ?_) hr fun s'' K2 hm'' ht'' => hR s'' K2 ?_ ht''
      · rw [hsb.2 b fun z => hSf (z ▸ hb)]
        exact e
      · rw [List.take_add_one, e1]
        rcases List.mem_cons.mp hk with rfl | hk
        · exact List.mem_append_right _ (List.mem_cons_self ..)
        · exact List.mem_append_left _ (hKs k hk)
      · show h'.get? b = some o
        rw [hsb.2 b fun z => hfr b o e (z ▸ List.mem_cons_self ..)]
        exact hold' b o e
      · refine Moved.trans W.gtrans (Moved.then_heap (hm.mono hsub) (Nat.le_add_right ..) fun b o hb e => ?_) hm''
        rw [hsb.2 b fun z => hb (z ▸ List.mem_cons_self ..)]
        exact e
theorem call_setT {l : Addr} {items : Array Value} {ks : List NestedKey} {t2 : SetTable} {hs2 : Array Int} {Q : Value → Shared → Prop} (hh : A.handled = none) (hu : A.in1.in1.in1.units + 8 < cLine) (hl : s.heap.IsList l items) (hk : NestedAll s.heap ks items.toList) (hb : ks.all (nkB 8) = true) (hnd : ks.Nodup) (href : ∀ v ∈ items.toList, ∃ x, v = .ref x)
    (hr : runT (ks.map (NestedKey.hash w)) (SetTable.fresh 0 0 !w.params.followText "set-order") #[] = some (t2, hs2))
    (h : ∀ h' tk Ks, TabAt h' s.heap s.heap.objs.size t2 hs2 Ks → (∀ b o, s.heap.get? b = some o → h'.get? b = some o) → Q (.ref s.heap.objs.size) { heap := h', gens := s.gens, drawn := s.drawn, toks := tk, os := s.os }) : wpAny (model P w) A (call (.type "set") [.ref l]) Q E s := by
  obtain ⟨c, tl, hmro⟩ := F.called_set.mro
  have hmade := F.called_set.made
  have hsub := F.called_set.sub
  have hct := F.typeCall_set_1 (.ref l)
  refine wpAny_call (codeAny_of_tree ?_)
  refine wpAny_pure ⟨Code.quiet_builtin _ (by decide +kernel), ?_⟩
  refine codeAny_builtin F.entry_type_call ?_
  rw [Around.under_plain (weight_type_call_type "set" [.ref l] []) rfl]
  have h1 := F.called_set.notType
  have h2 := F.called_set.canCreate
  unfold Builtin.«type.__call__»
  dsimp only
  rw [if_neg (show ¬ (Value.type "set" == Value.type "type") = true by decide +kernel)]
  refine wpAny_bind (wpAny_of_eq hct ?_)
  refine wpAny_bind (wpAny_of_eq hmro ?_)
  refine wpAny_ite_false (by rfl) ?_
  refine wpAny_bind (wpAny_of_eq hmade ?_)
  refine wpAny_bind (wpAny_pure ?_)
  refine wpAny_bind (wpAny_holding (wpAny_call (codeAny_mono (L2.code_set_led1 (E := E) (Q₁ := fun obj s₁ => obj = Value.ref s.heap.objs.size ∧ s₁ = { heap := s.heap.push { cls := .type "set", data := Data.set #[] 0 (SetTable.fresh 0 0 !w.params.followText "set-order") }, gens := s.gens, drawn := s.drawn, toks := s.toks, os := s.os }) (.ref l) ⟨rfl, rfl⟩) fun r s₁ hr1 => ?_)))
  have hr1 : wants (fun obj s₁ => obj = Value.ref s.heap.objs.size ∧ s₁ = { heap := s.heap.push { cls := .type "set", data := Data.set #[] 0 (SetTable.fresh 0 0 !w.params.followText "set-order") }, gens := s.gens, drawn := s.drawn, toks := s.toks, os := s.os }) E r s₁ := hr1
  cases r with
  | error e => exact hr1
  | ok fl =>
    cases fl with
    | ret v =>
      obtain ⟨rfl, rfl⟩ := hr1
      have hS : (s.heap.push { cls := .type "set", data := Data.set #[] 0 (SetTable.fresh 0 0 !w.params.followText "set-order") }).get? s.heap.objs.size = some { cls := .type "set", data := Data.set #[] 0 (SetTable.fresh 0 0 !w.params.followText "set-order") } := Heap.get?_push_size s.heap rfl
      obtain ⟨ol, hol, hcl, nl, hdl⟩ := hl
      have hol' := Heap.get?_push_of_some { cls := .type "set", data := Data.set #[] 0 (SetTable.fresh 0 0 !w.params.followText "set-order") } hol
      have hz1 : (s.heap.push { cls := .type "set", data := Data.set #[] 0 (SetTable.fresh 0 0 !w.params.followText "set-order") }).objs.size = s.heap.objs.size + 1 := Heap.size_push ..
      have hkeep : ∀ b o, s.heap.get? b = some o → (s.heap.push { cls := .type "set", data := Data.set #[] 0 (SetTable.fresh 0 0 !w.params.followText "set-order") }).get? b = some o := fun b o e => Heap.get?_push_of_some _ e
      have hT0 : TabAt (s.heap.push { cls := .type "set", data := Data.set #[] 0 (SetTable.fresh 0 0 !w.params.followText "set-order") }) s.heap s.heap.objs.size (SetTable.fresh 0 0 !w.params.followText "set-order") #[] [] := ⟨_, #[], 0, hS, ⟨rfl, rfl, rfl⟩, rfl, by simp, fun e he => by simp at he⟩
      generalize hH : s.heap.push { cls := .type "set", data := Data.set #[] 0 (SetTable.fresh 0 0 !w.params.followText "set-order") } = H1 at *
      have hT : Shared.TypeIs { heap := H1, gens := s.gens, drawn := s.drawn, toks := s.toks, os := s.os } (.ref s.heap.objs.size) "set" := ⟨_, hS, rfl⟩
      refine wpAny_bind (wpAny_isInstance hT hsub ?_)
      rw [if_neg (by decide)]
      refine wpAny_bind (wpAny_holding ?_)
      unfold callSpecial?
      refine wpAny_bind (wpAny_specialOf hT F.called_set.init.lookup ?_)
      dsimp only
      refine wpAny_holding ?_
      refine wpAny_bind (wpAny_of_eq (F.called_set.init.bind (.ref s.heap.objs.size)) ?_)
      dsimp only
      refine wpAny_bind (wpAny_call (codeAny_mono (R := wants (fun r s₂ => r = Value.none ∧ ∃ h' tk Ks, s₂ = { heap := h', gens := s.gens, drawn := s.drawn, toks := tk, os := s.os } ∧ TabAt h' s.heap s.heap.objs.size t2 hs2 Ks ∧ ∀ b o, s.heap.get? b = some o → h'.get? b = some o) E) (codeAny_call_builtin F.called_set.init.plain F.entry_set_init (check_set_init_1 hT ?_)) fun r₂ s₂ hr₂ => ?_))
      · obtain ⟨ocls, odict, odata, oslots⟩ := ol
        dsimp only at hcl hdl
        subst hcl hdl
        have hsls := F.sub_list_set
        have hslf := F.sub_list_frozenset
        clear hr1 hmro hmade hct h1 h2 h
        unfold Builtin.«set.__init__»
        dsimp only
        refine wpAny_bind ?_
        unfold noKeywords
        rw [if_pos (by rfl)]
        refine wpAny_pure ?_
        dsimp only [List.cons_append, List.nil_append]
        refine wpAny_bind ?_
        unfold typeNameOfCut
        refine wpAny_bind ?_
        unfold shownTypeOf
        refine wpAny_bind (wpAny_typeOf hT ?_)
        rw [if_neg (by decide +kernel)]
        refine wpAny_pure ?_
        show wpAny (model P w) A.in1.in1 (pure "set") _ _ _
        refine wpAny_pure ?_
        refine wpAny_bind ?_
        show wpAny (model P w) A.in1.in1 (pure ()) _ _ _
        refine wpAny_pure ?_
        refine wpAny_bind ?_
        show wpAny (model P w) A.in1.in1 (pure s.heap.objs.size) _ _ _
        refine wpAny_pure ?_
        refine wpAny_bind ?_
        unfold setUsed
        refine wpAny_bind (wpAny_setState_of hS rfl rfl ?_)
        refine wpAny_pure ?_
        rw [if_neg (by exact nofun)]
        refine wpAny_bind ?_
        unfold Builtin.Frozenset.updateFrom
        refine wpAny_bind ?_
        unfold Builtin.Frozenset.isAnySet orM
        have hTl : Shared.TypeIs { heap := H1, gens := s.gens, drawn := s.drawn, toks := s.toks, os := s.os } (.ref l) "list" := ⟨_, hol', rfl⟩
        refine wpAny_bind (wpAny_isInstance hTl hsls ?_)
        show wpAny (model P w) A.in1.in1 (isInstance (Value.ref l) (Value.type "frozenset")) _ _ _
        refine wpAny_isInstance hTl hslf ?_
        rw [if_neg (by decide)]
        refine wpAny_bind (wpAny_typeOf hTl ?_)
        rw [if_neg (by decide +kernel)]
        have hl1 : H1.IsList l items := ⟨_, hol', rfl, nl, rfl⟩
        refine wpAny_bind (wpAny_pyIter_list hl1 ?_)
        refine wpAny_bind (wpAny_runValue ?_)
        have hlS : l < s.heap.objs.size := Heap.lt_size hol
        have hh3 : A.in1.in1.in1.handled = none := hh
        dsimp only
        have hneI : l ≠ H1.objs.size := by
          rw [hz1]
          exact Nat.ne_of_lt (Nat.lt_succ_of_lt hlS)
        have hSf : ¬ s.heap.objs.size ∈ [H1.objs.size, l] := by
          simp only [List.mem_cons, List.not_mem_nil, or_false]
          rw [hz1]
          exact fun z => z.elim (fun z => absurd z (Nat.ne_of_lt (Nat.lt_succ_self _))) fun z => absurd z.symm (Nat.ne_of_lt hlS)
        have hlen : items.size = ks.length := by
          have q : ∀ (Ks : List NestedKey) (vs : List Value), NestedAll s.heap Ks vs → vs.length = Ks.length := by
            intro Ks
            induction Ks with
            | nil => intro vs h; cases h; rfl
            | cons k Ks ih =>
              intro vs h
              cases h with
              | cons a b => rw [List.length_cons, List.length_cons, ih _ b]
          rw [← q ks items.toList hk, Array.length_toList]
        have hval : ∀ (i : Nat) (v : Value), items[i]? = some v → ∃ k x, ks[i]? = some k ∧ v = .ref x ∧ NestedIs s.heap k (.ref x) ∧ nkB 8 k = true := by
          intro i v hv
          have q : ∀ (Ks : List NestedKey) (vs : List Value), NestedAll s.heap Ks vs → ∀ (i : Nat) (v : Value), vs[i]? = some v → ∃ k, Ks[i]? = some k ∧ NestedIs s.heap k v := by
            intro Ks
            induction Ks with
            | nil => intro vs h i v e; cases h; simp at e
            | cons k Ks ih =>
              intro vs h i v e
              cases h with
              | cons a b =>
                cases i with
                | zero =>
                  simp at e
                  subst e
                  exact ⟨k, rfl, a⟩
                | succ i => exact ih _ b i v (by simpa using e)
          have hv' : items.toList[i]? = some v := by rw [Array.getElem?_toList]; exact hv
          obtain ⟨k, e1, e2⟩ := q ks items.toList hk i v hv'
          obtain ⟨x, rfl⟩ := href v (List.mem_of_getElem? hv')
          exact ⟨k, x, e1, rfl, e2, List.all_eq_true.mp hb k (List.mem_of_getElem? e1)⟩
        have hfr : ∀ b o, s.heap.get? b = some o → ¬ b ∈ s.heap.objs.size :: [H1.objs.size] := fun b o e z => by
          have := Heap.lt_size e
          simp only [List.mem_cons, List.not_mem_nil, or_false] at z
          rw [hz1] at z
          exact z.elim (fun z => absurd z (Nat.ne_of_lt this)) fun z => absurd z (Nat.ne_of_lt (Nat.lt_succ_of_lt this))
        refine upd_tab (t2 := t2) (hs2 := hs2) (Walks.toS (Walks.list hh3 H1.objs.size l hneI items)) s.heap.objs.size hSf ks hlen s.heap hu hfr hval hnd (List.all_eq_true.mp hb) (items.size - 0) 0 _ (SetTable.fresh 0 0 !w.params.followText "set-order") #[] [] rfl (Nat.zero_le _) ⟨⟨_, Heap.get?_push_size H1 rfl, rfl, rfl⟩, Heap.IsList.push hl1 _⟩ ?_ (fun _ z => by cases z) (fun b o e => Heap.get?_push_of_some _ (hkeep b o e)) hr fun s' K2 hm ht' => ?_
        · obtain ⟨o, es, ep, q1, q2⟩ := hT0
          exact ⟨o, es, ep, Heap.get?_push_of_some _ q1, q2⟩
        · obtain ⟨h', g2, d', tk', os'⟩ := s'
          have eg := hm.gens
          have ed := hm.drawn
          have eo := hm.os
          dsimp only at eg ed eo
          subst eg ed eo
          refine wpAny_pure ?_
          refine wpAny_pure ?_
          refine ⟨rfl, h', tk', K2, rfl, ht', fun b o e => hm.heap b o (hfr b o e) (Heap.get?_push_of_some _ (hkeep b o e))⟩
      · have hr₂ : wants (fun r s₂ => r = Value.none ∧ ∃ h' tk Ks, s₂ = { heap := h', gens := s.gens, drawn := s.drawn, toks := tk, os := s.os } ∧ TabAt h' s.heap s.heap.objs.size t2 hs2 Ks ∧ ∀ b o, s.heap.get? b = some o → h'.get? b = some o) E r₂ s₂ := hr₂
        cases r₂ with
        | error e => exact hr₂
        | ok fl =>
          cases fl with
          | ret v =>
            obtain ⟨rfl, h', tk, Ks, rfl, q1, q2⟩ := hr₂
            refine wpAny_pure ?_
            dsimp only
            rw [if_neg (by decide)]
            exact wpAny_pure (h h' tk Ks q1 q2)
          | _ => exact hr₂.elim
    | _ => exact hr1.elim
end
mutual
def nkD : D → NestedKey
  | .int i => .num i
  | .tup l => .tup (nkL l)
  | _ => .none
def nkL : List D → List NestedKey
  | [] => []
  | d :: l => nkD d :: nkL l
end
mutual
def hashD : D → Int
  | .int i => hashInt i
  | .tup l => reduceHash (PySem.Builtin.Tuple.tupleHashOf (hashL l))
  | _ => 0
def hashL : List D → List Int
  | [] => []
  | d :: l => hashD d :: hashL l
end
theorem nkL_map : ∀ l : List D, nkL l = l.map nkD
  | [] => rfl
  | d :: l => by
    show nkD d :: nkL l = _
    rw [nkL_map l]
    rfl
theorem hash_nk {w : World} : ∀ {n : Nat} {d : D}, nkB n (nkD d) = true → NestedKey.hash w (nkD d) = hashD d := by
  have step : ∀ {m : Nat}, (∀ {d : D}, nkB m (nkD d) = true → NestedKey.hash w (nkD d) = hashD d) → ∀ l : List D, (nkL l).all (nkB m) = true → NestedKey.hashes w (nkL l) = hashL l := by
    intro m ih l
    induction l with
    | nil => exact fun _ => rfl
    | cons a l il =>
      intro q
      have q : (nkB m (nkD a) && (nkL l).all (nkB m)) = true := q
      rw [Bool.and_eq_true] at q
      show NestedKey.hash w (nkD a) :: NestedKey.hashes w (nkL l) = hashD a :: hashL l
      rw [ih q.1, il q.2]
  intro n
  induction n with
  | zero =>
    intro d h
    cases d with
    | int i => rfl
    | tup l => cases h
    | _ => cases h
  | succ n ih =>
    intro d h
    cases d with
    | int i => rfl
    | tup l =>
      have h : (nkL l).all (nkB n) = true := h
      show reduceHash (PySem.Builtin.Tuple.tupleHashOf (NestedKey.hashes w (nkL l))) = reduceHash (PySem.Builtin.Tuple.tupleHashOf (hashL l))
      rw [step ih l h]
    | _ => cases h
theorem reads_nk {h : Heap} : ∀ {n : Nat} {d : D} {v : Value} {as : List Addr}, nkB n (nkD d) = true → Reads h v (py d) as → NestedIs h (nkD d) v := by
  intro n
  induction n with
  | zero =>
    intro d v as q r
    cases d with
    | int i =>
      cases r with
      | int i t => exact .int i t
    | tup l => cases q
    | _ => cases q
  | succ n ih =>
    intro d v as q r
    cases d with
    | int i =>
      cases r with
      | int i t => exact .int i t
    | tup l =>
      have q : (nkL l).all (nkB n) = true := q
      have r : Reads h v (.tuple (pyL l)) as := r
      have key : ∀ (l : List D) (vs : List Value) (as : List Addr), (nkL l).all (nkB n) = true → ReadsAll h vs (pyL l) as → NestedAll h (nkL l) vs := by
        intro l
        induction l with
        | nil =>
          intro vs as _ r
          have r : ReadsAll h vs [] as := r
          cases r
          exact .nil
        | cons a l il =>
          intro vs as q r
          have q : (nkB n (nkD a) && (nkL l).all (nkB n)) = true := q
          rw [Bool.and_eq_true] at q
          have r : ReadsAll h vs (py a :: pyL l) as := r
          cases r with
          | cons r1 r2 => exact .cons (ih q.1 r1) (il _ _ q.2 r2)
      cases r with
      | tuple ho hc hd hall => exact .tup ho hc hd (key l _ _ q hall)
    | _ => cases q
def isIntB : D → Bool
  | .int _ => true
  | _ => false
def intV : D → Int
  | .int i => i
  | _ => 0
def isTupB : D → Bool
  | .tup _ => true
  | _ => false
def fullB (r : Option (SetTable × Array Int)) (n : Nat) : Bool := match r with
  | some (t, hs) => t.fits hs.size && decide (hs.size = n)
  | none => false
def setB (hs : List Int) : Bool := fullB (runT hs (SetTable.fresh 0 0 true) #[]) hs.length && fullB (runT hs (SetTable.fresh 0 0 false) #[]) hs.length
def unlikeB : List D → Bool
  | [] => true
  | d :: l => l.all (fun e => !eqV d e) && unlikeB l
def lenSetB (l : List D) : Bool := okL 59 l && (decide (l.length ≤ 4000) && ((l.all isIntB && decide (l.map intV).Nodup) || (l.all isTupB && (l.all (fun d => nkB 8 (nkD d)) && (unlikeB l && setB (l.map hashD))))))
def lenSetM (d : D) (S : Sto) : Res D := match getL d S with
  | some l => if lenSetB l = true then .ok (.int (l.length : Int)) S else .bad
  | none => .bad
def lenSetF (g : Env → Sto → Res D) : Env → Sto → Res D := fun env S => (g env S).bind lenSetM
section
variable {X : Cx} {M : Lm} {W : WX}
theorem ints_map : ∀ {l : List D}, l.all isIntB = true → l = (l.map intV).map .int
  | [], _ => rfl
  | d :: l, h => by
    rw [List.all_cons, Bool.and_eq_true] at h
    rw [List.map_cons, List.map_cons, ← ints_map h.2]
    cases d with
    | int i => rfl
    | _ => cases h.1
theorem encL_ints {K : PySem.W.Frag} {H : Hp} {ow : Addr → Prop} : ∀ {ns : List Int} {vs : List V}, EncL K M H ow (ns.map .int) vs → vs = ns.map V.int
  | [], _, .nil => rfl
  | n :: ns, _, .cons h r => by
    rw [encL_ints r]
    cases h
    rfl
theorem nkD_inj : ∀ {n : Nat} {a b : D}, nkB n (nkD a) = true → nkB n (nkD b) = true → nkD a = nkD b → eqV a b = true := by
  intro n
  induction n with
  | zero =>
    intro a b ha hb e
    cases a with
    | int i =>
      cases b with
      | int j =>
        injection e with e
        subst e
        exact beq_self_eq_true _
      | _ => cases hb
    | _ => cases ha
  | succ n ih =>
    intro a b ha hb e
    cases a with
    | int i =>
      cases b with
      | int j =>
        injection e with e
        subst e
        exact beq_self_eq_true _
      | tup l => cases e
      | _ => cases hb
    | tup l =>
      cases b with
      | int j => cases e
      | tup r =>
        have ha : (nkL l).all (nkB n) = true := ha
        have hb : (nkL r).all (nkB n) = true := hb
        have e : NestedKey.tup (nkL l) = .tup (nkL r) := e
        injection e with e
        have key : ∀ l r : List D, (nkL l).all (nkB n) = true → (nkL r).all (nkB n) = true → nkL l = nkL r → eqVL l r = true := by
          intro l
          induction l with
          | nil =>
            intro r _ _ e
            cases r with
            | nil => rfl
            | cons b r => cases e
          | cons a l il =>
            intro r ha hb e
            cases r with
            | nil => cases e
            | cons b r =>
              have ha : (nkB n (nkD a) && (nkL l).all (nkB n)) = true := ha
              have hb : (nkB n (nkD b) && (nkL r).all (nkB n)) = true := hb
              rw [Bool.and_eq_true] at ha hb
              have e : nkD a :: nkL l = nkD b :: nkL r := e
              injection e with e1 e2
              show (eqV a b && eqVL l r) = true
              rw [ih ha.1 hb.1 e1, il r ha.2 hb.2 e2]
              rfl
        exact key l r ha hb e
      | _ => cases hb
    | _ => cases ha
theorem nkL_nodup : ∀ {l : List D}, l.all (fun d => nkB 8 (nkD d)) = true → unlikeB l = true → (nkL l).Nodup
  | [], _, _ => List.nodup_nil
  | d :: l, h, u => by
    rw [List.all_cons, Bool.and_eq_true] at h
    have u : (l.all (fun e => !eqV d e) && unlikeB l) = true := u
    rw [Bool.and_eq_true] at u
    show (nkD d :: nkL l).Nodup
    rw [List.nodup_cons]
    refine ⟨fun z => ?_, nkL_nodup h.2 u.2⟩
    rw [nkL_map] at z
    obtain ⟨e, he, ee⟩ := List.mem_map.mp z
    have q := List.all_eq_true.mp u.1 e he
    rw [nkD_inj h.1 (List.all_eq_true.mp h.2 e he) ee.symm] at q
    cases q
theorem s_lenSet {e : Expr} {g : Env → Sto → Res D} {p p2 q pos : Pos} (hc : X.calm = true) (hu : X.A.units + 65 < cLine) (he : SE X M W e g) (hm : X.mg "len" = none) (hm2 : X.mg "set" = none) (hg : Gl X "len" := by rfl) (hg2 : Gl X "set" := by rfl)
    (na : starEach [e] X.env = (false, eval e X.env) :: starEach [] X.env := by rfl) :
    SE X M W (.Call (.Name "len" p) [.Call (.Name "set" p2) [e] [] q] [] pos) (lenSetF g) := by
  refine ⟨fun pins s σ H Q I h => ?_⟩
  obtain ⟨env, z, rfl, kz, v, h⟩ := h
  refine PyProof.Rows.Call_ (ld_blt I hg hm boot_len (PyProof.Rows.callWith_builtin1 (PyProof.Rows.args_cons (PyProof.Rows.Call_ (ld_blt I hg2 hm2 PyProof.Rows.boot_set (PyProof.Rows.callWith_type1 (PyProof.Rows.args_cons (thn (he.run pins s σ z.H _ I ⟨env, z, rfl, kz, v, Out.bind h⟩) fun u s1 ⟨x1, H1, I1, r1, q1⟩ => PyProof.Rows.args_nil ?_) na) na rfl))) rfl) rfl rfl)) (by rfl)
  obtain ⟨d, z1, rfl, _, xx, k1, qa, h1⟩ := q1
  unfold lenSetM at h1
  cases gl : getL d z1.S with
  | none =>
    rw [gl] at h1
    exact h1.elim
  | some ls =>
    rw [gl] at h1
    dsimp only at h1
    by_cases cc : lenSetB ls = true
    · rw [if_pos cc] at h1
      unfold lenSetB at cc
      rw [Bool.and_eq_true, Bool.and_eq_true, decide_eq_true_iff] at cc
      obtain ⟨c1, c2, c3⟩ := cc
      obtain ⟨ad, vs, rfl, hs, hl⟩ := getL_ok k1 qa gl
      obtain rfl : u = Value.ref ad := r1
      obtain ⟨its, rv, hli, hz⟩ := I1.list hs
      have hlen : its.length = ls.length := by rw [← rv.length, hl.length]
      have fin : ∀ (h' : Heap) (tk : Nat), (∀ b o, s1.heap.get? b = some o → h'.get? b = some o) → ∃ x2 H2, Inv X pins σ H2 { heap := h', gens := s1.gens, drawn := s1.drawn, toks := tk + 1 + 1, os := s1.os } ∧ RelV x2 (.int (ls.length : Int) (tk + 1)) ∧ Q x2 H2 := fun h' tk hk => ⟨.int (ls.length : Int), z1.H, I1.kept hk, ⟨_, rfl⟩, h1 z1 _ rfl (Ext.refl _) k1 (.of (.int _))⟩
      rw [Bool.or_eq_true] at c3
      rcases c3 with c3 | c3
      · rw [Bool.and_eq_true, decide_eq_true_iff] at c3
        obtain ⟨d1, d2⟩ := c3
        rw [ints_map d1] at hl
        have ev := encL_ints hl
        subst ev
        have hn : (ls.map intV).length = ls.length := List.length_map ..
        refine call_set_list (I1.ok.hd hc) hli.isList (RZ.intsAre_vals rv) (by show its.length + 1 < 4096; omega) fun h' tk hS hk => ?_
        rw [show (List.toArray its).size = (ls.map intV).length by rw [hn]; exact hlen, RZ.firstMet_nodup d2 _ (Nat.le_refl _), List.take_length] at hS
        obtain ⟨o, es, ep, t, ho, hex, hd, _, _, _, hf, hN⟩ := hS
        refine PyProof.Rows.args_nil (call_len_set ho hex hd hf (by omega) ?_)
        rw [hN, hn]
        exact fin h' tk fun b o e => hk b o (Heap.lt_size e) e
      · rw [Bool.and_eq_true, Bool.and_eq_true] at c3
        obtain ⟨d1, d2, d3⟩ := c3
        rw [Bool.and_eq_true] at d3
        obtain ⟨d4, d3⟩ := d3
        have e := prs_vals rv (encL_prs hl)
        have er := reads_of I1 c1 e
        have nested : ∀ (l : List D) (us : List Value), l.all (fun d => nkB 8 (nkD d)) = true → PySem.W.EachIs (fun v b => ∃ as, Reads s1.heap v (py b) as) us l → NestedAll s1.heap (nkL l) us := by
          intro l
          induction l with
          | nil =>
            intro us _ h
            cases h
            exact .nil
          | cons a l il =>
            intro us q h
            rw [List.all_cons, Bool.and_eq_true] at q
            cases h with
            | cons h1 h2 =>
              obtain ⟨as, h1⟩ := h1
              exact .cons (reads_nk q.1 h1) (il _ q.2 h2)
        have hk := nested ls its d2 er
        have hb : (nkL ls).all (nkB 8) = true := by
          rw [nkL_map, List.all_map]
          exact d2
        have href : ∀ v ∈ its, ∃ x, v = Value.ref x := by
          have q : ∀ (l : List D) (us : List Value), l.all isTupB = true → PySem.W.EachIs (fun v b => ∃ as, Reads s1.heap v (py b) as) us l → ∀ v ∈ us, ∃ x, v = Value.ref x := by
            intro l
            induction l with
            | nil =>
              intro us _ h v hv
              cases h
              cases hv
            | cons a l il =>
              intro us q h v hv
              rw [List.all_cons, Bool.and_eq_true] at q
              cases h with
              | cons h1 h2 =>
                rcases List.mem_cons.mp hv with rfl | hv
                · obtain ⟨as, h1⟩ := h1
                  cases a with
                  | tup r =>
                    have h1 : Reads s1.heap v (.tuple (pyL r)) as := h1
                    cases h1
                    exact ⟨_, rfl⟩
                  | _ => cases q.1
                · exact il _ q.2 h2 v hv
          exact q ls its d1 er
        have hh : ∀ l : List D, l.all (fun d => nkB 8 (nkD d)) = true → (nkL l).map (NestedKey.hash X.w) = l.map hashD := by
          intro l
          induction l with
          | nil => exact fun _ => rfl
          | cons a l il =>
            intro q
            rw [List.all_cons, Bool.and_eq_true] at q
            show NestedKey.hash X.w (nkD a) :: (nkL l).map (NestedKey.hash X.w) = hashD a :: l.map hashD
            rw [hash_nk q.1, il q.2]
        have led : ∀ b : Bool, fullB (runT (ls.map hashD) (SetTable.fresh 0 0 b) #[]) (ls.map hashD).length = true := by
          unfold setB at d3
          rw [Bool.and_eq_true] at d3
          intro b
          cases b
          · exact d3.2
          · exact d3.1
        have led := led (!X.w.params.followText "set-order")
        cases hr : runT (ls.map hashD) (SetTable.fresh 0 0 (!X.w.params.followText "set-order")) #[] with
        | none =>
          rw [hr] at led
          cases led
        | some r =>
          obtain ⟨t2, hs2⟩ := r
          rw [hr] at led
          have led : (t2.fits hs2.size && decide (hs2.size = (ls.map hashD).length)) = true := led
          rw [Bool.and_eq_true, decide_eq_true_iff, List.length_map] at led
          refine call_setT (ks := nkL ls) (t2 := t2) (hs2 := hs2) (I1.ok.hd hc) (by show X.A.units + 1 + 1 + 1 + 8 < cLine; omega) hli.isList hk hb (nkL_nodup d2 d4) href (by rw [hh ls d2]; exact hr) fun h' tk Ks ht hkeep => ?_
          obtain ⟨o, es, ep, ho, hex, hd, hmm, _⟩ := ht
          have hN : es.size = ls.length := by rw [← led.2, ← hmm, Array.size_map]
          refine PyProof.Rows.args_nil (call_len_set ho hex hd (by rw [hN, ← led.2]; exact led.1) (by omega) ?_)
          rw [hN]
          exact fin h' tk hkeep
    · rw [if_neg cc] at h1
      exact h1.elim
end
section
variable {S : Sto} {env : Env} {f : Env → Sto → Res D} {R : D → Sto → Prop} {E : D → Sto → Prop}
theorem o_lenSet (h : OKR (f env S) (fun d S1 => ∃ l, getL d S1 = some l ∧ lenSetB l = true ∧ R (.int (l.length : Int)) S1) E) : OKR (lenSetF f env S) R E := o_bind (h.mono (fun d S1 q => by
  obtain ⟨l, e, c, q⟩ := q
  unfold lenSetM
  rw [e]
  dsimp only
  rw [if_pos c]
  exact q) fun _ _ q => q)
instance r_o_lenSet : Rule (OKR (lenSetF f env S) R E) (OKR (f env S) (fun d S1 => ∃ l, getL d S1 = some l ∧ lenSetB l = true ∧ R (.int (l.length : Int)) S1) E) := ⟨fun h => o_lenSet h⟩
end
def revIn (n : Nat) (S : Sto) : Res D := match S[n]? with
  | some (.lst false l) => .ok .non (S.set n (.lst false l.reverse))
  | _ => .bad
def revO : Mt := fun d as S => match d, as with
  | .ref n, [] => revIn n S
  | _, _ => .bad
section
variable {X : Cx} {M : Lm} {W : WX}
theorem revO_ok : MtR X "list.reverse" (rMt X.K M W revO) := by
  intro pins s σ H x xs v us Q I rx rxs hh
  obtain ⟨z, d, as, σ', rfl, k, qa, qs, h⟩ := hh
  match d, as, qa, qs, h with
  | .ref n, [], qa, qs, h =>
    cases qs
    have h1 : Out X.K M (EncA X.K M) W σ' z Q (revIn n z.S) := h
    unfold revIn at h1
    cases hn : z.S[n]? with
    | none =>
      rw [hn] at h1
      exact h1.elim
    | some o =>
      rw [hn] at h1
      cases o with
      | dic fz l => exact h1.elim
      | arr l => exact h1.elim
      | dar ks l => exact h1.elim
      | ins c ks l => exact h1.elim
      | tpl l => exact h1.elim
      | lst fz l =>
        cases fz with
        | true => exact h1.elim
        | false =>
          obtain ⟨p, vs, rfl, hp, hv, hl⟩ := ref_lst k qa hn
          have hx := ext_wrt (o := .lst vs.reverse) (b := .lst false l.reverse) k hn hp rfl
          exact mt_reverse pins s σ z.H _ _ v us Q I rx rxs ⟨p, vs, rfl, rfl, hv, h1 (z.wrt n p (.lst vs.reverse) (.lst false l.reverse)) .non rfl hx (sok_wrt k hn hp rfl ⟨vs.reverse, upd_same, hl.rev.mv hx.mv⟩) (.of .non)⟩
end
section
variable {S : Sto} {P : D → Sto → Prop} {E : D → Sto → Prop}
theorem o_revO {n : Nat} {l : List D} (hn : S[n]? = some (.lst false l)) (h : P .non (S.set n (.lst false l.reverse))) : OKR (revO (.ref n) [] S) P E := by
  have e : revO (.ref n) [] S = .ok .non (S.set n (.lst false l.reverse)) := by
    show revIn n S = _
    unfold revIn
    rw [hn]
  rw [e]
  exact h
end
end Sm
namespace Sm
open PySem PySem.Spec PyProof.Rows L2
def topS (i : Nat) : Stmt := PySem.Challenge.pw_towerwise_k08_whole_all_tried.main.body.getD i (.Pass ⟨0, 0, 0, 0⟩)
structure Bt (mg : Str → Option Value) : Prop where
  b_abs : mg "abs" = none
  b_all : mg "all" = none
  b_bool : mg "bool" = none
  b_enumerate : mg "enumerate" = none
  b_int : mg "int" = none
  b_isinstance : mg "isinstance" = none
  b_len : mg "len" = none
  b_list : mg "list" = none
  b_max : mg "max" = none
  b_min : mg "min" = none
  b_range : mg "range" = none
  b_repr : mg "repr" = none
  b_set : mg "set" = none
  b_sorted : mg "sorted" = none
  b_str : mg "str" = none
  b_sum : mg "sum" = none
  b_tuple : mg "tuple" = none
abbrev cSQUARES : D := (.tup [(.int 4), (.int 9), (.int 25), (.int 49)])
abbrev cMOST_POWER : D := (.int 400)
abbrev cFARTHEST : D := (.int 40)
abbrev cMOST_PLACE : D := (.int 400)
abbrev cWIDEST : D := (.int 2)
abbrev mSIZES : List (List Nat × D) := [([114, 101, 115, 116], (.tup [(.int 2), (.int 12)])), ([97, 98, 111, 117, 116], (.tup [(.int 1), (.int 3)])), ([115, 117, 114, 101], (.tup [(.int 0), (.int 6)]))]
def tabT : List (Nat × List Bool) := [(1, [true, true, false, false]), (2, [true, false, true, false]), (3, [true, false, false, true])]
abbrev k_BadKind : Nat := 1
abbrev k_BadWorth : Nat := 2
abbrev k_BadNumber : Nat := 3
def subT : Nat → Nat → Option Bool := subBy tabT
abbrev sL_mixed : Stmt := topS 43
theorem scL_mixed : FnScope ["_law_number", "_law_k"] ["_law_number", "_law_k"] (defScope sL_mixed) := ⟨rfl, rfl, rfl, by decide +kernel, rfl, by decide +kernel, by decide +kernel⟩
def bL_mixed : Env → Sto → SR := seqF (setF 0 (binF modD (binF powD (binF addD (binF addD (binF addD (binF modD (varF 0) (conF (.int 2147483647))) (binF mulD (binF mulD (conF (.int 7919)) (varF 1)) (varF 1))) (binF mulD (conF (.int 31)) (varF 1))) (conF (.int 5))) (conF (.int 5))) (conF (.int 2147483629)))) (retF (binF fdivD (binF modD (binF mulD (varF 0) (binF addD (conF (.int 69621)) (binF mulD (conF (.int 2)) (varF 1)))) (conF (.int 2147483587))) (conF (.int 7))))
def fL_mixed : Fn := fnM 2 0 true bL_mixed
theorem okL_mixed {P : Program} {w : World} {K : PySem.W.Frag} {M : Lm} {mg : Str → Option Value} {base : Heap} {f : Addr} {fd : FuncData} (N : Kn K mg "_law_mixed" sL_mixed ["_law_number", "_law_k"] f fd) (NA : M.arr = false) (B : Bt mg) : Def P w K M mg base "_law_mixed" 1 ["_law_number", "_law_k"] fL_mixed :=
  N.def (FnS.of (k := 0) NA N.fn scL_mixed rfl (by decide) fun cdv hcv A outer s H E hr gd W tk hp => by
    have nd := scL_mixed.nd
    have U : (A.deeper (envOfC "_law_mixed" (defScope sL_mixed) s.heap.objs.size f cdv)).units + 65 < cLine := by
      have := hr.un
      omega
    have U64 := Nat.lt_of_succ_lt U
    have U1 := Nat.lt_of_le_of_lt (Nat.add_le_add_left (show 1 ≤ 65 by decide) _) U
    exact ss_cons (ss_set 0 nd (s_bin mod_ok (s_bin pow_ok (s_bin add_ok (s_bin add_ok (s_bin add_ok (s_bin mod_ok (s_var 0) (s_int)) (s_bin mul_ok (s_bin mul_ok (s_int) (s_var 1)) (s_var 1))) (s_bin mul_ok (s_int) (s_var 1))) (s_int)) (s_int)) (s_int))) (ss_one (ss_ret (s_bin fdiv_ok (s_bin mod_ok (s_bin mul_ok (s_var 0) (s_bin add_ok (s_int) (s_bin mul_ok (s_int) (s_var 1)))) (s_int)) (s_int)))))
abbrev sL_stream : Stmt := topS 44
theorem scL_stream : FnScope ["_law_cell", "_law_k"] ["_law_cell", "_law_k"] (defScope sL_stream) := ⟨rfl, rfl, rfl, by decide +kernel, rfl, by decide +kernel, by decide +kernel⟩
def bL_stream : Env → Sto → SR := retF (lstO (consA (binF geD (varF 0) (binF powD (conF (.int 10)) (conF (.int 18)))) (consA (varF 0) (consA (conF (.int 0)) (consA (callF fL_mixed (consA (varF 0) (consA (varF 1) (nilA)))) (nilA))))))
def fL_stream : Fn := fnM 2 0 false bL_stream
theorem okL_stream {P : Program} {w : World} {K : PySem.W.Frag} {M : Lm} {mg : Str → Option Value} {base : Heap} {f : Addr} {fd : FuncData} (N : Kn K mg "_law_stream" sL_stream ["_law_cell", "_law_k"] f fd) (NA : M.arr = false) (B : Bt mg) (D_L_mixed : Def P w K M mg base "_law_mixed" 1 ["_law_number", "_law_k"] fL_mixed) : Def P w K M mg base "_law_stream" 2 ["_law_cell", "_law_k"] fL_stream :=
  N.def (FnS.of (k := 1) NA N.fn scL_stream rfl (by decide) fun cdv hcv A outer s H E hr gd W tk hp => by
    have nd := scL_stream.nd
    have U : (A.deeper (envOfC "_law_stream" (defScope sL_stream) s.heap.objs.size f cdv)).units + 65 < cLine := by
      have := hr.un
      omega
    have U64 := Nat.lt_of_succ_lt U
    have U1 := Nat.lt_of_le_of_lt (Nat.add_le_add_left (show 1 ≤ 65 by decide) _) U
    exact ss_one (ss_ret (s_lstO (sa_cons (s_cmp ge_ok (s_var 0) (s_bin pow_ok (s_int) (s_int))) (sa_cons (s_var 0) (sa_cons (s_int) (sa_cons (s_callD D_L_mixed hr gd tk (sa_cons (s_var 0) (sa_cons (s_var 1) (sa_nil)))) (sa_nil))))))))
abbrev sL_take : Stmt := topS 45
theorem scL_take : FnScope ["_law_stream_here", "_law_many", "_law_number"] ["_law_stream_here", "_law_many"] (defScope sL_take) := ⟨rfl, rfl, rfl, by decide +kernel, rfl, by decide +kernel, by decide +kernel⟩
def bL_take : Env → Sto → SR := seqF (putF (varF 0) (conF (.int 2)) (binF addD (binF ixD (varF 0) (conF (.int 2))) (conF (.int 1)))) (seqF (ifF (orT (notT (isB (binF ixD (varF 0) (conF (.int 0))))) (orT (isB (binF (inD false) (binF ixD (varF 0) (conF (.int 1))) (tupF (consA (conF (.int 0)) (consA (negF (conF (.int 1))) (nilA)))))) (isB (binF gtD (binF ixD (varF 0) (conF (.int 2))) (conF (.int 60)))))) (retF (binF modD (binF fdivD (callF fL_mixed (consA (binF addD (binF ixD (varF 0) (conF (.int 3))) (binF mulD (conF (.int 104729)) (binF ixD (varF 0) (conF (.int 2))))) (consA (binF ixD (varF 0) (conF (.int 2))) (nilA)))) (conF (.int 11))) (varF 1))) (nopF)) (seqF (setF 2 (binF modD (binF ixD (varF 0) (conF (.int 1))) (varF 1))) (seqF (putF (varF 0) (conF (.int 1)) (binF fdivD (binF ixD (varF 0) (conF (.int 1))) (varF 1))) (retF (varF 2)))))
def fL_take : Fn := fnM 2 1 true bL_take
theorem okL_take {P : Program} {w : World} {K : PySem.W.Frag} {M : Lm} {mg : Str → Option Value} {base : Heap} {f : Addr} {fd : FuncData} (N : Kn K mg "_law_take" sL_take ["_law_stream_here", "_law_many"] f fd) (NA : M.arr = false) (B : Bt mg) (D_L_mixed : Def P w K M mg base "_law_mixed" 1 ["_law_number", "_law_k"] fL_mixed) : Def P w K M mg base "_law_take" 2 ["_law_stream_here", "_law_many"] fL_take :=
  N.def (FnS.of (k := 1) NA N.fn scL_take rfl (by decide) fun cdv hcv A outer s H E hr gd W tk hp => by
    have nd := scL_take.nd
    have U : (A.deeper (envOfC "_law_take" (defScope sL_take) s.heap.objs.size f cdv)).units + 65 < cLine := by
      have := hr.un
      omega
    have U64 := Nat.lt_of_succ_lt U
    have U1 := Nat.lt_of_le_of_lt (Nat.add_le_add_left (show 1 ≤ 65 by decide) _) U
    exact ss_cons (ss_put U1 (s_var 0) (s_int) (s_bin add_ok (s_ix U1 (s_var 0) (s_int)) (s_int))) (ss_cons (ss_if (st_w (sw_or (st_not (st_val (s_ix U1 (s_var 0) (s_int)))) (sw_or (st_cmp (in_ok U) (s_ix U1 (s_var 0) (s_int)) (s_tup (sa_cons (s_int) (sa_cons (s_neg (s_int)) (sa_nil))))) (sw_or1 (st_cmp gt_ok (s_ix U1 (s_var 0) (s_int)) (s_int)))))) (ss_one (ss_ret (s_bin mod_ok (s_bin fdiv_ok (s_callD D_L_mixed hr gd tk (sa_cons (s_bin add_ok (s_ix U1 (s_var 0) (s_int)) (s_bin mul_ok (s_int) (s_ix U1 (s_var 0) (s_int)))) (sa_cons (s_ix U1 (s_var 0) (s_int)) (sa_nil)))) (s_int)) (s_var 1)))) (ss_nil)) (ss_cons (ss_set 2 nd (s_bin mod_ok (s_ix U1 (s_var 0) (s_int)) (s_var 1))) (ss_cons (ss_put U1 (s_var 0) (s_int) (s_bin fdiv_ok (s_ix U1 (s_var 0) (s_int)) (s_var 1))) (ss_one (ss_ret (s_var 2)))))))
abbrev sL_table_by : Stmt := topS 48
abbrev nL_table_by : List Str := ["_law_stream_here", "_law_many", "_law_kind", "_law_x", "_law_y"]
theorem scL_table_by : FnScope ["_law_stream_here", "_law_many", "_law_kind", "_law_x", "_law_y"] ["_law_stream_here", "_law_many", "_law_kind"] (defScope sL_table_by) := ⟨rfl, rfl, rfl, by decide +kernel, rfl, by decide +kernel, by decide +kernel⟩
def bL_table_by_e0 : Env → Sto → Res D := binF modD (binF addD (varF 3) (varF 4)) (varF 1)
def bL_table_by_e1 : Env → Sto → Res D := callF tupleM (consA (lcF [4] (itR1 (consA (varF 1) (nilA))) (.one 4) yesF bL_table_by_e0) (nilA))
def bL_table_by_e2 : Env → Sto → Res D := binF modD (binF mulD (varF 3) (varF 4)) (varF 1)
def bL_table_by_e3 : Env → Sto → Res D := callF tupleM (consA (lcF [4] (itR1 (consA (varF 1) (nilA))) (.one 4) yesF bL_table_by_e2) (nilA))
def bL_table_by_e4 : Env → Sto → Res D := callF fL_take (consA (varF 0) (consA (varF 1) (nilA)))
def bL_table_by_e5 : Env → Sto → Res D := callF tupleM (consA (lcF [4] (itR1 (consA (varF 1) (nilA))) (.one 4) yesF bL_table_by_e4) (nilA))
def bL_table_by : Env → Sto → SR := seqF (ifF (isB (binF eqD (varF 2) (conF (.int 0)))) (retF (callF tupleM (consA (lcF [3] (itR1 (consA (varF 1) (nilA))) (.one 3) yesF bL_table_by_e1) (nilA)))) (nopF)) (seqF (ifF (isB (binF eqD (varF 2) (conF (.int 1)))) (retF (callF tupleM (consA (lcF [3] (itR1 (consA (varF 1) (nilA))) (.one 3) yesF bL_table_by_e3) (nilA)))) (nopF)) (retF (callF tupleM (consA (lcF [3] (itR1 (consA (varF 1) (nilA))) (.one 3) yesF bL_table_by_e5) (nilA)))))
def fL_table_by : Fn := fnM 3 2 true bL_table_by
theorem okL_table_by {P : Program} {w : World} {K : PySem.W.Frag} {M : Lm} {mg : Str → Option Value} {base : Heap} {f : Addr} {fd : FuncData} (N : Kn K mg "_law_table_by" sL_table_by ["_law_stream_here", "_law_many", "_law_kind"] f fd) (NA : M.arr = false) (B : Bt mg) (D_L_take : Def P w K M mg base "_law_take" 2 ["_law_stream_here", "_law_many"] fL_take) : Def P w K M mg base "_law_table_by" 3 ["_law_stream_here", "_law_many", "_law_kind"] fL_table_by :=
  N.def (FnS.of (k := 2) NA N.fn scL_table_by rfl (by decide) fun cdv hcv A outer s H E hr gd W tk hp => by
    have nd := scL_table_by.nd
    have U : (A.deeper (envOfC "_law_table_by" (defScope sL_table_by) s.heap.objs.size f cdv)).units + 65 < cLine := by
      have := hr.un
      omega
    have U64 := Nat.lt_of_succ_lt U
    have U1 := Nat.lt_of_le_of_lt (Nat.add_le_add_left (show 1 ≤ 65 by decide) _) U
    exact ss_cons (ss_if (st_cmp (eq_ok U64) (s_var 2) (s_int)) (ss_one (ss_ret (s_callTy tuple_ok (B.b_tuple) (sa_cons (s_lc [("_law_x", 3)] rfl nd (si_range1 (sa_cons (s_var 1) (sa_nil)) (B.b_range)) (blkOk_by (N := nL_table_by) (sc := defScope sL_table_by) (by decide +kernel)) (sg2_name 3 fun _ => pg_name (i := 3) nd rfl (by first | exact Or.inl rfl | exact Or.inr rfl)) (fun _ => sts_nil) (fun _ => s_callTy tuple_ok (B.b_tuple) (sa_cons (s_lc [("_law_y", 4)] rfl nd (si_range1 (sa_cons (s_var 1) (sa_nil)) (B.b_range)) (blkOk_by (N := nL_table_by) (by rfl)) (sg2_name 4 fun _ => pg_name (i := 4) nd rfl (by first | exact Or.inl rfl | exact Or.inr rfl)) (fun _ => sts_nil) (fun _ => s_bin mod_ok (s_bin add_ok (s_var 3) (s_var 4)) (s_var 1))) (sa_nil)) (hv := bb_tuple))) (sa_nil)) (hv := bb_tuple)))) (ss_nil)) (ss_cons (ss_if (st_cmp (eq_ok U64) (s_var 2) (s_int)) (ss_one (ss_ret (s_callTy tuple_ok (B.b_tuple) (sa_cons (s_lc [("_law_x", 3)] rfl nd (si_range1 (sa_cons (s_var 1) (sa_nil)) (B.b_range)) (blkOk_by (N := nL_table_by) (sc := defScope sL_table_by) (by decide +kernel)) (sg2_name 3 fun _ => pg_name (i := 3) nd rfl (by first | exact Or.inl rfl | exact Or.inr rfl)) (fun _ => sts_nil) (fun _ => s_callTy tuple_ok (B.b_tuple) (sa_cons (s_lc [("_law_y", 4)] rfl nd (si_range1 (sa_cons (s_var 1) (sa_nil)) (B.b_range)) (blkOk_by (N := nL_table_by) (by rfl)) (sg2_name 4 fun _ => pg_name (i := 4) nd rfl (by first | exact Or.inl rfl | exact Or.inr rfl)) (fun _ => sts_nil) (fun _ => s_bin mod_ok (s_bin mul_ok (s_var 3) (s_var 4)) (s_var 1))) (sa_nil)) (hv := bb_tuple))) (sa_nil)) (hv := bb_tuple)))) (ss_nil)) (ss_one (ss_ret (s_callTy tuple_ok (B.b_tuple) (sa_cons (s_lc [("_law_x", 3)] rfl nd (si_range1 (sa_cons (s_var 1) (sa_nil)) (B.b_range)) (blkOk_by (N := nL_table_by) (sc := defScope sL_table_by) (by decide +kernel)) (sg2_name 3 fun _ => pg_name (i := 3) nd rfl (by first | exact Or.inl rfl | exact Or.inr rfl)) (fun _ => sts_nil) (fun _ => s_callTy tuple_ok (B.b_tuple) (sa_cons (s_lc [("_law_y", 4)] rfl nd (si_range1 (sa_cons (s_var 1) (sa_nil)) (B.b_range)) (blkOk_by (N := nL_table_by) (by rfl)) (sg2_name 4 fun _ => pg_name (i := 4) nd rfl (by first | exact Or.inl rfl | exact Or.inr rfl)) (fun _ => sts_nil) (fun _ => s_callD D_L_take hr gd takes_W0 (sa_cons (s_var 0) (sa_cons (s_var 1) (sa_nil))))) (sa_nil)) (hv := bb_tuple))) (sa_nil)) (hv := bb_tuple))))))
abbrev sL_kind_by : Stmt := topS 49
theorem scL_kind_by : FnScope ["_law_stream_here", "_law_word", "_law_free", "_law_many", "_law_ways", "_law_least", "_law_wide"] ["_law_stream_here"] (defScope sL_kind_by) := ⟨rfl, rfl, rfl, by decide +kernel, rfl, by decide +kernel, by decide +kernel⟩
def bL_kind_by : Env → Sto → SR := seqF (setF 1 (binF ixD (lstF (consA (conF (.str [119, 104, 111, 108, 101])) (consA (conF (.str [115, 104, 97, 114, 101])) (consA (conF (.str [114, 111, 111, 116])) (consA (conF (.str [114, 101, 115, 116])) (consA (conF (.str [97, 98, 111, 117, 116])) (consA (conF (.str [115, 117, 114, 101])) (consA (conF (.str [111, 119, 110])) (nilA))))))))) (callF fL_take (consA (varF 0) (consA (conF (.int 7)) (nilA)))))) (seqF (ifF (isB (binF (inD false) (varF 1) (tupF (consA (conF (.str [119, 104, 111, 108, 101])) (consA (conF (.str [115, 104, 97, 114, 101])) (nilA)))))) (retF (tupF (consA (varF 1) (nilA)))) (nopF)) (seqF (ifF (isB (binF eqD (varF 1) (conF (.str [114, 111, 111, 116])))) (seqF (setF 2 (lstF (consA (conF (.int 2)) (consA (conF (.int 3)) (consA (conF (.int 5)) (consA (conF (.int 6)) (consA (conF (.int 7)) (consA (conF (.int 10)) (consA (conF (.int 11)) (consA (conF (.int 13)) (consA (conF (.int 14)) (consA (conF (.int 15)) (consA (conF (.int 17)) (consA (conF (.int 19)) (consA (conF (.int 21)) (consA (conF (.int 22)) (consA (conF (.int 23)) (consA (conF (.int 26)) (consA (conF (.int 29)) (consA (conF (.int 30)) (consA (conF (.int 31)) (consA (conF (.int 33)) (consA (conF (.int 34)) (consA (conF (.int 35)) (consA (conF (.int 37)) (consA (conF (.int 38)) (consA (conF (.int 39)) (consA (conF (.int 41)) (consA (conF (.int 42)) (nilA)))))))))))))))))))))))))))))) (retF (tupF (consA (varF 1) (consA (binF ixD (binF addD (varF 2) (lstF (consA (conF (.int 43)) (consA (conF (.int 46)) (consA (conF (.int 47)) (consA (conF (.int 51)) (consA (conF (.int 53)) (consA (conF (.int 55)) (consA (conF (.int 57)) (consA (conF (.int 58)) (consA (conF (.int 59)) (nilA)))))))))))) (callF fL_take (consA (varF 0) (consA (conF (.int 36)) (nilA))))) (nilA)))))) (nopF)) (seqF (ifF (isB (binF eqD (varF 1) (conF (.str [111, 119, 110])))) (seqF (setF 3 (binF addD (conF (.int 2)) (callF fL_take (consA (varF 0) (consA (conF (.int 5)) (nilA)))))) (seqF (setF 4 (lstF (consA (callF fL_take (consA (varF 0) (consA (conF (.int 3)) (nilA)))) (consA (callF fL_take (consA (varF 0) (consA (conF (.int 3)) (nilA)))) (nilA))))) (retF (tupF (consA (varF 1) (consA (callF fL_table_by (consA (varF 0) (consA (varF 3) (consA (binF ixD (varF 4) (conF (.int 0))) (nilA))))) (consA (callF fL_table_by (consA (varF 0) (consA (varF 3) (consA (binF ixD (varF 4) (conF (.int 1))) (nilA))))) (nilA)))))))) (nopF)) (seqF (unpF (.many [.one 5, .one 6]) (binF ixD (dispF [[114, 101, 115, 116], [97, 98, 111, 117, 116], [115, 117, 114, 101]] ((tupF (consA (conF (.int 2)) (consA (conF (.int 11)) (nilA)))) :: (tupF (consA (conF (.int 1)) (consA (conF (.int 3)) (nilA)))) :: (tupF (consA (conF (.int 0)) (consA (conF (.int 7)) (nilA)))) :: [])) (varF 1))) (retF (tupF (consA (varF 1) (consA (binF addD (varF 5) (callF fL_take (consA (varF 0) (consA (varF 6) (nilA))))) (nilA)))))))))
def fL_kind_by : Fn := fnM 1 6 true bL_kind_by
theorem okL_kind_by {P : Program} {w : World} {K : PySem.W.Frag} {M : Lm} {mg : Str → Option Value} {base : Heap} {f : Addr} {fd : FuncData} (N : Kn K mg "_law_kind_by" sL_kind_by ["_law_stream_here"] f fd) (NA : M.arr = false) (B : Bt mg) (D_L_take : Def P w K M mg base "_law_take" 2 ["_law_stream_here", "_law_many"] fL_take) (D_L_table_by : Def P w K M mg base "_law_table_by" 3 ["_law_stream_here", "_law_many", "_law_kind"] fL_table_by) : Def P w K M mg base "_law_kind_by" 4 ["_law_stream_here"] fL_kind_by :=
  N.def (FnS.of (k := 3) NA N.fn scL_kind_by rfl (by decide) fun cdv hcv A outer s H E hr gd W tk hp => by
    have nd := scL_kind_by.nd
    have U : (A.deeper (envOfC "_law_kind_by" (defScope sL_kind_by) s.heap.objs.size f cdv)).units + 65 < cLine := by
      have := hr.un
      omega
    have U64 := Nat.lt_of_succ_lt U
    have U1 := Nat.lt_of_le_of_lt (Nat.add_le_add_left (show 1 ≤ 65 by decide) _) U
    exact ss_cons (ss_set 1 nd (s_ix U1 (s_lst (sa_cons (s_str [119, 104, 111, 108, 101]) (sa_cons (s_str [115, 104, 97, 114, 101]) (sa_cons (s_str [114, 111, 111, 116]) (sa_cons (s_str [114, 101, 115, 116]) (sa_cons (s_str [97, 98, 111, 117, 116]) (sa_cons (s_str [115, 117, 114, 101]) (sa_cons (s_str [111, 119, 110]) (sa_nil))))))))) (s_callD D_L_take hr gd tk (sa_cons (s_var 0) (sa_cons (s_int) (sa_nil)))))) (ss_cons (ss_if (st_cmp (in_ok U) (s_var 1) (s_tup (sa_cons (s_str [119, 104, 111, 108, 101]) (sa_cons (s_str [115, 104, 97, 114, 101]) (sa_nil))))) (ss_one (ss_ret (s_tup (sa_cons (s_var 1) (sa_nil))))) (ss_nil)) (ss_cons (ss_if (st_cmp (eq_ok U64) (s_var 1) (s_str [114, 111, 111, 116])) (ss_cons (ss_set 2 nd (s_lst (sa_cons (s_int) (sa_cons (s_int) (sa_cons (s_int) (sa_cons (s_int) (sa_cons (s_int) (sa_cons (s_int) (sa_cons (s_int) (sa_cons (s_int) (sa_cons (s_int) (sa_cons (s_int) (sa_cons (s_int) (sa_cons (s_int) (sa_cons (s_int) (sa_cons (s_int) (sa_cons (s_int) (sa_cons (s_int) (sa_cons (s_int) (sa_cons (s_int) (sa_cons (s_int) (sa_cons (s_int) (sa_cons (s_int) (sa_cons (s_int) (sa_cons (s_int) (sa_cons (s_int) (sa_cons (s_int) (sa_cons (s_int) (sa_cons (s_int) (sa_nil)))))))))))))))))))))))))))))) (ss_one (ss_ret (s_tup (sa_cons (s_var 1) (sa_cons (s_ix U1 (s_bin add_ok (s_var 2) (s_lst (sa_cons (s_int) (sa_cons (s_int) (sa_cons (s_int) (sa_cons (s_int) (sa_cons (s_int) (sa_cons (s_int) (sa_cons (s_int) (sa_cons (s_int) (sa_cons (s_int) (sa_nil)))))))))))) (s_callD D_L_take hr gd tk (sa_cons (s_var 0) (sa_cons (s_int) (sa_nil))))) (sa_nil))))))) (ss_nil)) (ss_cons (ss_if (st_cmp (eq_ok U64) (s_var 1) (s_str [111, 119, 110])) (ss_cons (ss_set 3 nd (s_bin add_ok (s_int) (s_callD D_L_take hr gd tk (sa_cons (s_var 0) (sa_cons (s_int) (sa_nil)))))) (ss_cons (ss_set 4 nd (s_lst (sa_cons (s_callD D_L_take hr gd tk (sa_cons (s_var 0) (sa_cons (s_int) (sa_nil)))) (sa_cons (s_callD D_L_take hr gd tk (sa_cons (s_var 0) (sa_cons (s_int) (sa_nil)))) (sa_nil))))) (ss_one (ss_ret (s_tup (sa_cons (s_var 1) (sa_cons (s_callD D_L_table_by hr gd tk (sa_cons (s_var 0) (sa_cons (s_var 3) (sa_cons (s_ix U1 (s_var 4) (s_int)) (sa_nil))))) (sa_cons (s_callD D_L_table_by hr gd tk (sa_cons (s_var 0) (sa_cons (s_var 3) (sa_cons (s_ix U1 (s_var 4) (s_int)) (sa_nil))))) (sa_nil))))))))) (ss_nil)) (ss_cons (ss_unp (s_ix U1 (s_dispF (sd_cons [114, 101, 115, 116] (s_tup (sa_cons (s_int) (sa_cons (s_int) (sa_nil)))) (sd_cons [97, 98, 111, 117, 116] (s_tup (sa_cons (s_int) (sa_cons (s_int) (sa_nil)))) (sd_cons [115, 117, 114, 101] (s_tup (sa_cons (s_int) (sa_cons (s_int) (sa_nil)))) (SDs.nil))))) (s_var 1)) (sg_tup rfl (sgs_cons (sg_name 5 nd) (sgs_cons (sg_name 6 nd) (sgs_nil))) 2)) (ss_one (ss_ret (s_tup (sa_cons (s_var 1) (sa_cons (s_bin add_ok (s_var 5) (s_callD D_L_take hr gd tk (sa_cons (s_var 0) (sa_cons (s_var 6) (sa_nil))))) (sa_nil)))))))))))
abbrev sis_whole : Stmt := topS 6
theorem scis_whole : FnScope ["thing"] ["thing"] (defScope sis_whole) := ⟨rfl, rfl, rfl, by decide +kernel, rfl, by decide +kernel, by decide +kernel⟩
def bis_whole : Env → Sto → SR := retF (andV (callF isiM (consA (varF 0) (consA (conF (.ty .int)) (nilA)))) (notV (callF isiM (consA (varF 0) (consA (conF (.ty .bool)) (nilA))))))
def fis_whole : Fn := fnM 1 0 true bis_whole
theorem okis_whole {P : Program} {w : World} {K : PySem.W.Frag} {M : Lm} {mg : Str → Option Value} {base : Heap} {f : Addr} {fd : FuncData} (N : Kn K mg "is_whole" sis_whole ["thing"] f fd) (NA : M.arr = false) (B : Bt mg) : Def P w K M mg base "is_whole" 1 ["thing"] fis_whole :=
  N.def (FnS.of (k := 0) NA N.fn scis_whole rfl (by decide) fun cdv hcv A outer s H E hr gd W tk hp => by
    have nd := scis_whole.nd
    have U : (A.deeper (envOfC "is_whole" (defScope sis_whole) s.heap.objs.size f cdv)).units + 65 < cLine := by
      have := hr.un
      omega
    have U64 := Nat.lt_of_succ_lt U
    have U1 := Nat.lt_of_le_of_lt (Nat.add_le_add_left (show 1 ≤ 65 by decide) _) U
    exact ss_one (ss_ret (s_and (s_callB isi_ok (B.b_isinstance) (sa_cons (s_var 0) (sa_cons (s_bty .int (B.b_int) bb_int) (sa_nil))) (hv := bb_isinstance)) (s_one (s_not (s_callB isi_ok (B.b_isinstance) (sa_cons (s_var 0) (sa_cons (s_bty .bool (B.b_bool) bb_bool) (sa_nil))) (hv := bb_isinstance)))))))
abbrev sis_among : Stmt := topS 7
theorem scis_among : FnScope ["thing", "least", "most"] ["thing", "least", "most"] (defScope sis_among) := ⟨rfl, rfl, rfl, by decide +kernel, rfl, by decide +kernel, by decide +kernel⟩
def bis_among : Env → Sto → SR := retF (andV (callF fis_whole (consA (varF 0) (nilA))) (chainF leD leD (varF 1) (varF 0) (varF 2)))
def fis_among : Fn := fnM 3 0 true bis_among
theorem okis_among {P : Program} {w : World} {K : PySem.W.Frag} {M : Lm} {mg : Str → Option Value} {base : Heap} {f : Addr} {fd : FuncData} (N : Kn K mg "is_among" sis_among ["thing", "least", "most"] f fd) (NA : M.arr = false) (B : Bt mg) (D_is_whole : Def P w K M mg base "is_whole" 1 ["thing"] fis_whole) : Def P w K M mg base "is_among" 2 ["thing", "least", "most"] fis_among :=
  N.def (FnS.of (k := 1) NA N.fn scis_among rfl (by decide) fun cdv hcv A outer s H E hr gd W tk hp => by
    have nd := scis_among.nd
    have U : (A.deeper (envOfC "is_among" (defScope sis_among) s.heap.objs.size f cdv)).units + 65 < cLine := by
      have := hr.un
      omega
    have U64 := Nat.lt_of_succ_lt U
    have U1 := Nat.lt_of_le_of_lt (Nat.add_le_add_left (show 1 ≤ 65 by decide) _) U
    exact ss_one (ss_ret (s_and (s_callD D_is_whole hr gd tk (sa_cons (s_var 0) (sa_nil))) (s_one (s_chain le_ok le_ok (s_var 1) (s_var 0) (s_var 2))))))
abbrev sis_table : Stmt := topS 15
abbrev nis_table : List Str := ["thing", "many", "row", "one"]
theorem scis_table : FnScope ["thing", "many", "row", "one"] ["thing", "many"] (defScope sis_table) := ⟨rfl, rfl, rfl, by decide +kernel, rfl, by decide +kernel, by decide +kernel⟩
def bis_table_e0 : Env → Sto → Res D := callF fis_among (consA (varF 3) (consA (conF (.int 0)) (consA (binF subD (varF 1) (conF (.int 1))) (nilA))))
def bis_table_l1 : Env → Sto → SR := ifF (orT (notT (isB (callF isiM (consA (varF 2) (consA (conF (.ty .tuple)) (nilA)))))) (orT (isB (binF neD (callF lenM (consA (varF 2) (nilA))) (varF 1))) (notT (isB (callF allM (consA (lcF [3] (itS (varF 2)) (.one 3) yesF bis_table_e0) (nilA))))))) (retF (conF (.bl false))) (nopF)
def bis_table : Env → Sto → SR := seqF (ifF (orT (notT (isB (callF isiM (consA (varF 0) (consA (conF (.ty .tuple)) (nilA)))))) (isB (binF neD (callF lenM (consA (varF 0) (nilA))) (varF 1)))) (retF (conF (.bl false))) (nopF)) (seqF (itF (itS (varF 0)) (.one 2) bis_table_l1) (retF (conF (.bl true))))
def fis_table : Fn := fnM 2 2 true bis_table
theorem okis_table {P : Program} {w : World} {K : PySem.W.Frag} {M : Lm} {mg : Str → Option Value} {base : Heap} {f : Addr} {fd : FuncData} (N : Kn K mg "is_table" sis_table ["thing", "many"] f fd) (NA : M.arr = false) (B : Bt mg) (D_is_among : Def P w K M mg base "is_among" 2 ["thing", "least", "most"] fis_among) : Def P w K M mg base "is_table" 3 ["thing", "many"] fis_table :=
  N.def (FnS.of (k := 2) NA N.fn scis_table rfl (by decide) fun cdv hcv A outer s H E hr gd W tk hp => by
    have nd := scis_table.nd
    have U : (A.deeper (envOfC "is_table" (defScope sis_table) s.heap.objs.size f cdv)).units + 65 < cLine := by
      have := hr.un
      omega
    have U64 := Nat.lt_of_succ_lt U
    have U1 := Nat.lt_of_le_of_lt (Nat.add_le_add_left (show 1 ≤ 65 by decide) _) U
    exact ss_cons (ss_if (st_w (sw_or (st_not (st_val (s_callB isi_ok (B.b_isinstance) (sa_cons (s_var 0) (sa_cons (s_bty .tuple (B.b_tuple) bb_tuple) (sa_nil))) (hv := bb_isinstance)))) (sw_or1 (st_cmp (ne_ok U64) (s_callB len_ok (B.b_len) (sa_cons (s_var 0) (sa_nil)) (hv := bb_len)) (s_var 1))))) (ss_one (ss_ret (s_bl))) (ss_nil)) (ss_cons (ss_for hp rfl (si_seq (s_var 0)) (sg_name 2 nd) (ss_one (ss_if (st_w (sw_or (st_not (st_val (s_callB isi_ok (B.b_isinstance) (sa_cons (s_var 2) (sa_cons (s_bty .tuple (B.b_tuple) bb_tuple) (sa_nil))) (hv := bb_isinstance)))) (sw_or (st_cmp (ne_ok U64) (s_callB len_ok (B.b_len) (sa_cons (s_var 2) (sa_nil)) (hv := bb_len)) (s_var 1)) (sw_or1 (st_not (st_val (s_callB (all_ok rfl) (B.b_all) (sa_cons (s_lc [("one", 3)] rfl nd (si_seq (s_var 2)) (blkOk_by (N := nis_table) (sc := defScope sis_table) (by decide +kernel)) (sg2_name 3 fun _ => pg_name (i := 3) nd rfl (by first | exact Or.inl rfl | exact Or.inr rfl)) (fun _ => sts_nil) (fun _ => s_callD D_is_among hr gd takes_W0 (sa_cons (s_var 3) (sa_cons (s_int) (sa_cons (s_bin sub_ok (s_var 1) (s_int)) (sa_nil)))))) (sa_nil)) (hv := bb_all)))))))) (ss_one (ss_ret (s_bl))) (ss_nil)))) (ss_one (ss_ret (s_bl)))))
abbrev sis_own : Stmt := topS 16
theorem scis_own : FnScope ["thing"] ["thing"] (defScope sis_own) := ⟨rfl, rfl, rfl, by decide +kernel, rfl, by decide +kernel, by decide +kernel⟩
def bis_own : Env → Sto → SR := seqF (ifF (orT (isB (binF neD (callF lenM (consA (varF 0) (nilA))) (conF (.int 3)))) (orT (notT (isB (callF isiM (consA (binF ixD (varF 0) (conF (.int 1))) (consA (conF (.ty .tuple)) (nilA)))))) (notT (isB (chainF leD leD (conF (.int 2)) (callF lenM (consA (binF ixD (varF 0) (conF (.int 1))) (nilA))) (conF (.int 6))))))) (retF (conF (.bl false))) (nopF)) (retF (andV (callF fis_table (consA (binF ixD (varF 0) (conF (.int 1))) (consA (callF lenM (consA (binF ixD (varF 0) (conF (.int 1))) (nilA))) (nilA)))) (callF fis_table (consA (binF ixD (varF 0) (conF (.int 2))) (consA (callF lenM (consA (binF ixD (varF 0) (conF (.int 1))) (nilA))) (nilA))))))
def fis_own : Fn := fnM 1 0 true bis_own
theorem okis_own {P : Program} {w : World} {K : PySem.W.Frag} {M : Lm} {mg : Str → Option Value} {base : Heap} {f : Addr} {fd : FuncData} (N : Kn K mg "is_own" sis_own ["thing"] f fd) (NA : M.arr = false) (B : Bt mg) (D_is_table : Def P w K M mg base "is_table" 3 ["thing", "many"] fis_table) : Def P w K M mg base "is_own" 4 ["thing"] fis_own :=
  N.def (FnS.of (k := 3) NA N.fn scis_own rfl (by decide) fun cdv hcv A outer s H E hr gd W tk hp => by
    have nd := scis_own.nd
    have U : (A.deeper (envOfC "is_own" (defScope sis_own) s.heap.objs.size f cdv)).units + 65 < cLine := by
      have := hr.un
      omega
    have U64 := Nat.lt_of_succ_lt U
    have U1 := Nat.lt_of_le_of_lt (Nat.add_le_add_left (show 1 ≤ 65 by decide) _) U
    exact ss_cons (ss_if (st_w (sw_or (st_cmp (ne_ok U64) (s_callB len_ok (B.b_len) (sa_cons (s_var 0) (sa_nil)) (hv := bb_len)) (s_int)) (sw_or (st_not (st_val (s_callB isi_ok (B.b_isinstance) (sa_cons (s_ix U1 (s_var 0) (s_int)) (sa_cons (s_bty .tuple (B.b_tuple) bb_tuple) (sa_nil))) (hv := bb_isinstance)))) (sw_or1 (st_not (st_chain le_ok le_ok (s_int) (s_callB len_ok (B.b_len) (sa_cons (s_ix U1 (s_var 0) (s_int)) (sa_nil)) (hv := bb_len)) (s_int))))))) (ss_one (ss_ret (s_bl))) (ss_nil)) (ss_one (ss_ret (s_and (s_callD D_is_table hr gd tk (sa_cons (s_ix U1 (s_var 0) (s_int)) (sa_cons (s_callB len_ok (B.b_len) (sa_cons (s_ix U1 (s_var 0) (s_int)) (sa_nil)) (hv := bb_len)) (sa_nil)))) (s_one (s_callD D_is_table hr gd tk (sa_cons (s_ix U1 (s_var 0) (s_int)) (sa_cons (s_callB len_ok (B.b_len) (sa_cons (s_ix U1 (s_var 0) (s_int)) (sa_nil)) (hv := bb_len)) (sa_nil)))))))))
abbrev sis_kind : Stmt := topS 17
abbrev nis_kind : List Str := ["thing", "word", "square"]
theorem scis_kind : FnScope ["thing", "word", "square"] ["thing"] (defScope sis_kind) := ⟨rfl, rfl, rfl, by decide +kernel, rfl, by decide +kernel, by decide +kernel⟩
def bis_kind_e0 : Env → Sto → Res D := binF neD (binF modD (binF ixD (varF 0) (conF (.int 1))) (varF 2)) (conF (.int 0))
def bis_kind_s1 : Env → Sto → SR := seqF (setF 1 (binF ixD (varF 0) (conF (.int 0)))) (seqF (ifF (isB (binF (inD false) (varF 1) (tupF (consA (conF (.str [119, 104, 111, 108, 101])) (consA (conF (.str [115, 104, 97, 114, 101])) (nilA)))))) (retF (binF eqD (callF lenM (consA (varF 0) (nilA))) (conF (.int 1)))) (nopF)) (seqF (ifF (isB (binF eqD (varF 1) (conF (.str [111, 119, 110])))) (retF (callF fis_own (consA (varF 0) (nilA)))) (nopF)) (seqF (ifF (isB (binF neD (callF lenM (consA (varF 0) (nilA))) (conF (.int 2)))) (retF (conF (.bl false))) (nopF)) (seqF (ifF (isB (binF eqD (varF 1) (conF (.str [114, 111, 111, 116])))) (retF (andV (callF fis_among (consA (binF ixD (varF 0) (conF (.int 1))) (consA (conF (.int 2)) (consA (conF (.int 60)) (nilA))))) (callF allM (consA (lcF [2] (itS (conF cSQUARES)) (.one 2) yesF bis_kind_e0) (nilA))))) (nopF)) (retF (andV (mdIn mSIZES false (varF 1)) (callF fis_among (consA (binF ixD (varF 0) (conF (.int 1))) (consA (binF ixD (mdIx mSIZES (varF 1)) (conF (.int 0))) (consA (binF ixD (mdIx mSIZES (varF 1)) (conF (.int 1))) (nilA)))))))))))
def bis_kind : Env → Sto → SR := seqF (ifF (orT (notT (isB (callF isiM (consA (varF 0) (consA (conF (.ty .tuple)) (nilA)))))) (orT (isB (binF eqED (varF 0) (tupF (nilA)))) (notT (isB (callF isiM (consA (binF ixD (varF 0) (conF (.int 0))) (consA (conF (.ty .str)) (nilA)))))))) (retF (conF (.bl false))) (nopF)) (seqF (setF 1 (binF ixD (varF 0) (conF (.int 0)))) (seqF (ifF (isB (binF (inD false) (varF 1) (tupF (consA (conF (.str [119, 104, 111, 108, 101])) (consA (conF (.str [115, 104, 97, 114, 101])) (nilA)))))) (retF (binF eqD (callF lenM (consA (varF 0) (nilA))) (conF (.int 1)))) (nopF)) (seqF (ifF (isB (binF eqD (varF 1) (conF (.str [111, 119, 110])))) (retF (callF fis_own (consA (varF 0) (nilA)))) (nopF)) (seqF (ifF (isB (binF neD (callF lenM (consA (varF 0) (nilA))) (conF (.int 2)))) (retF (conF (.bl false))) (nopF)) (seqF (ifF (isB (binF eqD (varF 1) (conF (.str [114, 111, 111, 116])))) (retF (andV (callF fis_among (consA (binF ixD (varF 0) (conF (.int 1))) (consA (conF (.int 2)) (consA (conF (.int 60)) (nilA))))) (callF allM (consA (lcF [2] (itS (conF cSQUARES)) (.one 2) yesF bis_kind_e0) (nilA))))) (nopF)) (retF (andV (mdIn mSIZES false (varF 1)) (callF fis_among (consA (binF ixD (varF 0) (conF (.int 1))) (consA (binF ixD (mdIx mSIZES (varF 1)) (conF (.int 0))) (consA (binF ixD (mdIx mSIZES (varF 1)) (conF (.int 1))) (nilA))))))))))))
def fis_kind : Fn := fnM 1 2 true bis_kind
theorem okis_kind {P : Program} {w : World} {K : PySem.W.Frag} {M : Lm} {mg : Str → Option Value} {base : Heap} {f : Addr} {fd : FuncData} (N : Kn K mg "is_kind" sis_kind ["thing"] f fd) (NA : M.arr = false) (B : Bt mg) (C_SQUARES : Con K mg "SQUARES" cSQUARES) (D_is_own : Def P w K M mg base "is_own" 4 ["thing"] fis_own) (D_is_among : Def P w K M mg base "is_among" 2 ["thing", "least", "most"] fis_among) (C_SIZES : Kdc K w mg "SIZES" mSIZES) : Def P w K M mg base "is_kind" 5 ["thing"] fis_kind :=
  N.def (FnS.of (k := 4) NA N.fn scis_kind rfl (by decide) fun cdv hcv A outer s H E hr gd W tk hp => by
    have nd := scis_kind.nd
    have U : (A.deeper (envOfC "is_kind" (defScope sis_kind) s.heap.objs.size f cdv)).units + 65 < cLine := by
      have := hr.un
      omega
    have U64 := Nat.lt_of_succ_lt U
    have U1 := Nat.lt_of_le_of_lt (Nat.add_le_add_left (show 1 ≤ 65 by decide) _) U
    exact ss_cons (ss_if (st_w (sw_or (st_not (st_val (s_callB isi_ok (B.b_isinstance) (sa_cons (s_var 0) (sa_cons (s_bty .tuple (B.b_tuple) bb_tuple) (sa_nil))) (hv := bb_isinstance)))) (sw_or (st_cmp (eqE_ok U64) (s_var 0) (s_tup (sa_nil))) (sw_or1 (st_not (st_val (s_callB isi_ok (B.b_isinstance) (sa_cons (s_ix U1 (s_var 0) (s_int)) (sa_cons (s_bty .str (B.b_str) bb_str) (sa_nil))) (hv := bb_isinstance)))))))) (ss_one (ss_ret (s_bl))) (ss_nil)) (ss_cons (ss_set 1 nd (s_ix U1 (s_var 0) (s_int))) (ss_cons (ss_if (st_cmp (in_ok U) (s_var 1) (s_tup (sa_cons (s_str [119, 104, 111, 108, 101]) (sa_cons (s_str [115, 104, 97, 114, 101]) (sa_nil))))) (ss_one (ss_ret (s_cmp (eq_ok U64) (s_callB len_ok (B.b_len) (sa_cons (s_var 0) (sa_nil)) (hv := bb_len)) (s_int)))) (ss_nil)) (ss_cons (ss_if (st_cmp (eq_ok U64) (s_var 1) (s_str [111, 119, 110])) (ss_one (ss_ret (s_callD D_is_own hr gd tk (sa_cons (s_var 0) (sa_nil))))) (ss_nil)) (ss_cons (ss_if (st_cmp (ne_ok U64) (s_callB len_ok (B.b_len) (sa_cons (s_var 0) (sa_nil)) (hv := bb_len)) (s_int)) (ss_one (ss_ret (s_bl))) (ss_nil)) (ss_cons (ss_if (st_cmp (eq_ok U64) (s_var 1) (s_str [114, 111, 111, 116])) (ss_one (ss_ret (s_and (s_callD D_is_among hr gd tk (sa_cons (s_ix U1 (s_var 0) (s_int)) (sa_cons (s_int) (sa_cons (s_int) (sa_nil))))) (s_one (s_callB (all_ok rfl) (B.b_all) (sa_cons (s_lc [("square", 2)] rfl nd (si_seq (s_con C_SQUARES)) (blkOk_by (N := nis_kind) (sc := defScope sis_kind) (by decide +kernel)) (sg2_name 2 fun _ => pg_name (i := 2) nd rfl (by first | exact Or.inl rfl | exact Or.inr rfl)) (fun _ => sts_nil) (fun _ => s_cmp (ne_ok U64) (s_bin mod_ok (s_ix U1 (s_var 0) (s_int)) (s_var 2)) (s_int))) (sa_nil)) (hv := bb_all)))))) (ss_nil)) (ss_one (ss_ret (s_and (s_mdIn C_SIZES (s_var 1)) (s_one (s_callD D_is_among hr gd tk (sa_cons (s_ix U1 (s_var 0) (s_int)) (sa_cons (s_ix U1 (s_mdIx C_SIZES (s_var 1)) (s_int)) (sa_cons (s_ix U1 (s_mdIx C_SIZES (s_var 1)) (s_int)) (sa_nil)))))))))))))))
abbrev sneed_kind : Stmt := topS 18
theorem scneed_kind : FnScope ["thing"] ["thing"] (defScope sneed_kind) := ⟨rfl, rfl, rfl, by decide +kernel, rfl, by decide +kernel, by decide +kernel⟩
def bneed_kind : Env → Sto → SR := ifF (notT (isB (callF fis_kind (consA (varF 0) (nilA))))) (raiseF 1) (nopF)
def fneed_kind : Fn := fnM 1 0 true bneed_kind
theorem okneed_kind {P : Program} {w : World} {K : PySem.W.Frag} {M : Lm} {mg : Str → Option Value} {base : Heap} {f : Addr} {fd : FuncData} (N : Kn K mg "need_kind" sneed_kind ["thing"] f fd) (NA : M.arr = false) (B : Bt mg) (D_is_kind : Def P w K M mg base "is_kind" 5 ["thing"] fis_kind) (G_BadKind : mg "BadKind" = some (.ref (M.cls 1))) (X_BadKind : XcF K (M.cls 1)) : Def P w K M mg base "need_kind" 6 ["thing"] fneed_kind :=
  N.def (FnS.of (k := 5) NA N.fn scneed_kind rfl (by decide) fun cdv hcv A outer s H E hr gd W tk hp => by
    have nd := scneed_kind.nd
    have U : (A.deeper (envOfC "need_kind" (defScope sneed_kind) s.heap.objs.size f cdv)).units + 65 < cLine := by
      have := hr.un
      omega
    have U64 := Nat.lt_of_succ_lt U
    have U1 := Nat.lt_of_le_of_lt (Nat.add_le_add_left (show 1 ≤ 65 by decide) _) U
    exact ss_one (ss_if (st_not (st_val (s_callD D_is_kind hr gd tk (sa_cons (s_var 0) (sa_nil))))) (ss_one (ss_raise 1 rfl tk X_BadKind G_BadKind)) (ss_nil)))
abbrev sis_finite : Stmt := topS 19
theorem scis_finite : FnScope ["kind"] ["kind"] (defScope sis_finite) := ⟨rfl, rfl, rfl, by decide +kernel, rfl, by decide +kernel, by decide +kernel⟩
def bis_finite : Env → Sto → SR := seqF (dropF (callF fneed_kind (consA (varF 0) (nilA)))) (retF (binF (inD false) (binF ixD (varF 0) (conF (.int 0))) (tupF (consA (conF (.str [114, 101, 115, 116])) (consA (conF (.str [111, 119, 110])) (nilA))))))
def fis_finite : Fn := fnM 1 0 true bis_finite
theorem okis_finite {P : Program} {w : World} {K : PySem.W.Frag} {M : Lm} {mg : Str → Option Value} {base : Heap} {f : Addr} {fd : FuncData} (N : Kn K mg "is_finite" sis_finite ["kind"] f fd) (NA : M.arr = false) (B : Bt mg) (D_need_kind : Def P w K M mg base "need_kind" 6 ["thing"] fneed_kind) : Def P w K M mg base "is_finite" 7 ["kind"] fis_finite :=
  N.def (FnS.of (k := 6) NA N.fn scis_finite rfl (by decide) fun cdv hcv A outer s H E hr gd W tk hp => by
    have nd := scis_finite.nd
    have U : (A.deeper (envOfC "is_finite" (defScope sis_finite) s.heap.objs.size f cdv)).units + 65 < cLine := by
      have := hr.un
      omega
    have U64 := Nat.lt_of_succ_lt U
    have U1 := Nat.lt_of_le_of_lt (Nat.add_le_add_left (show 1 ≤ 65 by decide) _) U
    exact ss_cons (ss_expr (s_callD D_need_kind hr gd tk (sa_cons (s_var 0) (sa_nil)))) (ss_one (ss_ret (s_cmp (in_ok U) (s_ix U1 (s_var 0) (s_int)) (s_tup (sa_cons (s_str [114, 101, 115, 116]) (sa_cons (s_str [111, 119, 110]) (sa_nil))))))))
abbrev sL_part : Stmt := topS 46
theorem scL_part : FnScope ["_law_one", "_law_other"] ["_law_one", "_law_other"] (defScope sL_part) := ⟨rfl, rfl, rfl, by decide +kernel, rfl, by decide +kernel, by decide +kernel⟩
def bL_part_t0 : Env → Sto → Res Bool := andT (isB (binF gtD (varF 0) (conF (.int 0)))) (isB (binF gtD (varF 1) (conF (.int 0))))
def bL_part_w1 : Env → Sto → SR := ifF (isB (binF geD (varF 0) (varF 1))) (setF 0 (binF modD (varF 0) (varF 1))) (setF 1 (binF modD (varF 1) (varF 0)))
def bL_part : Env → Sto → SR := seqF (parF [0, 1] (consA (callF absM (consA (varF 0) (nilA))) (consA (callF absM (consA (varF 1) (nilA))) (nilA)))) (seqF (whileF bL_part_t0 bL_part_w1) (retF (binF addD (varF 0) (varF 1))))
def fL_part : Fn := fnM 2 0 true bL_part
theorem okL_part {P : Program} {w : World} {K : PySem.W.Frag} {M : Lm} {mg : Str → Option Value} {base : Heap} {f : Addr} {fd : FuncData} (N : Kn K mg "_law_part" sL_part ["_law_one", "_law_other"] f fd) (NA : M.arr = false) (B : Bt mg) : Def P w K M mg base "_law_part" 1 ["_law_one", "_law_other"] fL_part :=
  N.def (FnS.of (k := 0) NA N.fn scL_part rfl (by decide) fun cdv hcv A outer s H E hr gd W tk hp => by
    have nd := scL_part.nd
    have U : (A.deeper (envOfC "_law_part" (defScope sL_part) s.heap.objs.size f cdv)).units + 65 < cLine := by
      have := hr.un
      omega
    have U64 := Nat.lt_of_succ_lt U
    have U1 := Nat.lt_of_le_of_lt (Nat.add_le_add_left (show 1 ≤ 65 by decide) _) U
    exact ss_cons (ss_par 0 1 rfl nd (sa_cons (s_callB abs_ok (B.b_abs) (sa_cons (s_var 0) (sa_nil)) (hv := bb_abs)) (sa_cons (s_callB abs_ok (B.b_abs) (sa_cons (s_var 1) (sa_nil)) (hv := bb_abs)) (sa_nil)))) (ss_cons (ss_while hp (st_w (sw_and (st_cmp gt_ok (s_var 0) (s_int)) (sw_and1 (st_cmp gt_ok (s_var 1) (s_int))))) (ss_one (ss_if (st_cmp ge_ok (s_var 0) (s_var 1)) (ss_one (ss_set 0 nd (s_bin mod_ok (s_var 0) (s_var 1)))) (ss_one (ss_set 1 nd (s_bin mod_ok (s_var 1) (s_var 0))))))) (ss_one (ss_ret (s_bin add_ok (s_var 0) (s_var 1))))))
abbrev sL_lowest : Stmt := topS 47
theorem scL_lowest : FnScope ["_law_above", "_law_below", "_law_part_here"] ["_law_above", "_law_below"] (defScope sL_lowest) := ⟨rfl, rfl, rfl, by decide +kernel, rfl, by decide +kernel, by decide +kernel⟩
def bL_lowest : Env → Sto → SR := seqF (setF 2 (binF mulD (callF fL_part (consA (varF 0) (consA (varF 1) (nilA)))) (iteF (isB (binF gtD (varF 1) (conF (.int 0)))) (conF (.int 1)) (negF (conF (.int 1)))))) (retF (tupF (consA (binF fdivD (varF 0) (varF 2)) (consA (binF fdivD (varF 1) (varF 2)) (nilA)))))
def fL_lowest : Fn := fnM 2 1 true bL_lowest
theorem okL_lowest {P : Program} {w : World} {K : PySem.W.Frag} {M : Lm} {mg : Str → Option Value} {base : Heap} {f : Addr} {fd : FuncData} (N : Kn K mg "_law_lowest" sL_lowest ["_law_above", "_law_below"] f fd) (NA : M.arr = false) (B : Bt mg) (D_L_part : Def P w K M mg base "_law_part" 1 ["_law_one", "_law_other"] fL_part) : Def P w K M mg base "_law_lowest" 2 ["_law_above", "_law_below"] fL_lowest :=
  N.def (FnS.of (k := 1) NA N.fn scL_lowest rfl (by decide) fun cdv hcv A outer s H E hr gd W tk hp => by
    have nd := scL_lowest.nd
    have U : (A.deeper (envOfC "_law_lowest" (defScope sL_lowest) s.heap.objs.size f cdv)).units + 65 < cLine := by
      have := hr.un
      omega
    have U64 := Nat.lt_of_succ_lt U
    have U1 := Nat.lt_of_le_of_lt (Nat.add_le_add_left (show 1 ≤ 65 by decide) _) U
    exact ss_cons (ss_set 2 nd (s_bin mul_ok (s_callD D_L_part hr gd tk (sa_cons (s_var 0) (sa_cons (s_var 1) (sa_nil)))) (s_ite (st_cmp gt_ok (s_var 1) (s_int)) (s_int) (s_neg (s_int))))) (ss_one (ss_ret (s_tup (sa_cons (s_bin fdiv_ok (s_var 0) (s_var 2)) (sa_cons (s_bin fdiv_ok (s_var 1) (s_var 2)) (sa_nil)))))))
abbrev smany_worths : Stmt := topS 20
theorem scmany_worths : FnScope ["kind"] ["kind"] (defScope smany_worths) := ⟨rfl, rfl, rfl, by decide +kernel, rfl, by decide +kernel, by decide +kernel⟩
def bmany_worths : Env → Sto → SR := seqF (ifF (notT (isB (callF fis_finite (consA (varF 0) (nilA))))) (raiseF 3) (nopF)) (retF (iteF (isB (binF eqD (binF ixD (varF 0) (conF (.int 0))) (conF (.str [114, 101, 115, 116])))) (binF ixD (varF 0) (conF (.int 1))) (callF lenM (consA (binF ixD (varF 0) (conF (.int 1))) (nilA)))))
def fmany_worths : Fn := fnM 1 0 true bmany_worths
theorem okmany_worths {P : Program} {w : World} {K : PySem.W.Frag} {M : Lm} {mg : Str → Option Value} {base : Heap} {f : Addr} {fd : FuncData} (N : Kn K mg "many_worths" smany_worths ["kind"] f fd) (NA : M.arr = false) (B : Bt mg) (D_is_finite : Def P w K M mg base "is_finite" 7 ["kind"] fis_finite) (G_BadNumber : mg "BadNumber" = some (.ref (M.cls 3))) (X_BadNumber : XcF K (M.cls 3)) : Def P w K M mg base "many_worths" 8 ["kind"] fmany_worths :=
  N.def (FnS.of (k := 7) NA N.fn scmany_worths rfl (by decide) fun cdv hcv A outer s H E hr gd W tk hp => by
    have nd := scmany_worths.nd
    have U : (A.deeper (envOfC "many_worths" (defScope smany_worths) s.heap.objs.size f cdv)).units + 65 < cLine := by
      have := hr.un
      omega
    have U64 := Nat.lt_of_succ_lt U
    have U1 := Nat.lt_of_le_of_lt (Nat.add_le_add_left (show 1 ≤ 65 by decide) _) U
    exact ss_cons (ss_if (st_not (st_val (s_callD D_is_finite hr gd tk (sa_cons (s_var 0) (sa_nil))))) (ss_one (ss_raise 3 rfl tk X_BadNumber G_BadNumber)) (ss_nil)) (ss_one (ss_ret (s_ite (st_cmp (eq_ok U64) (s_ix U1 (s_var 0) (s_int)) (s_str [114, 101, 115, 116])) (s_ix U1 (s_var 0) (s_int)) (s_callB len_ok (B.b_len) (sa_cons (s_ix U1 (s_var 0) (s_int)) (sa_nil)) (hv := bb_len))))))
abbrev sL_small_by : Stmt := topS 50
theorem scL_small_by : FnScope ["_law_stream_here", "_law_kind", "_law_share", "_law_one", "_law_low"] ["_law_stream_here", "_law_kind"] (defScope sL_small_by) := ⟨rfl, rfl, rfl, by decide +kernel, rfl, by decide +kernel, by decide +kernel⟩
def bL_small_by_s1 : Env → Sto → SR := seqF (ifF (isB (binF eqD (binF ixD (varF 1) (conF (.int 0))) (conF (.str [119, 104, 111, 108, 101])))) (retF (binF subD (callF fL_take (consA (varF 0) (consA (conF (.int 401)) (nilA)))) (conF (.int 200)))) (nopF)) (seqF (ifF (isB (binF eqD (binF ixD (varF 1) (conF (.int 0))) (conF (.str [115, 104, 97, 114, 101])))) (retF (callF fL_lowest (consA (binF subD (callF fL_take (consA (varF 0) (consA (conF (.int 21)) (nilA)))) (conF (.int 10))) (consA (binF addD (conF (.int 1)) (callF fL_take (consA (varF 0) (consA (conF (.int 12)) (nilA))))) (nilA))))) (nopF)) (seqF (ifF (isB (binF eqD (binF ixD (varF 1) (conF (.int 0))) (conF (.str [114, 111, 111, 116])))) (retF (tupF (consA (varF 2) (consA (binF ixD (lstF (consA (tupF (consA (conF (.int 0)) (consA (conF (.int 1)) (nilA)))) (consA (tupF (consA (conF (.int 1)) (consA (conF (.int 1)) (nilA)))) (consA (tupF (consA (negF (conF (.int 1))) (consA (conF (.int 1)) (nilA)))) (consA (tupF (consA (conF (.int 2)) (consA (conF (.int 1)) (nilA)))) (consA (tupF (consA (conF (.int 1)) (consA (conF (.int 2)) (nilA)))) (nilA))))))) (callF fL_take (consA (varF 0) (consA (conF (.int 5)) (nilA))))) (nilA))))) (nopF)) (seqF (ifF (isB (binF eqD (binF ixD (varF 1) (conF (.int 0))) (conF (.str [97, 98, 111, 117, 116])))) (seqF (setF 3 (binF subD (callF fL_take (consA (varF 0) (consA (conF (.int 19)) (nilA)))) (conF (.int 9)))) (retF (iteF (isB (binF neD (varF 3) (conF (.int 0)))) (tupF (consA (varF 3) (consA (binF subD (callF fL_take (consA (varF 0) (consA (conF (.int 9)) (nilA)))) (conF (.int 4))) (nilA)))) (tupF (consA (conF (.int 0)) (consA (conF (.int 0)) (nilA))))))) (nopF)) (seqF (ifF (isB (binF eqD (binF ixD (varF 1) (conF (.int 0))) (conF (.str [115, 117, 114, 101])))) (seqF (setF 4 (binF subD (callF fL_take (consA (varF 0) (consA (conF (.int 5)) (nilA)))) (conF (.int 2)))) (retF (tupF (consA (tupF (consA (varF 4) (consA (conF (.int 1)) (nilA)))) (consA (tupF (consA (binF addD (varF 4) (callF fL_take (consA (varF 0) (consA (binF subD (conF (.int 3)) (varF 4)) (nilA))))) (consA (conF (.int 1)) (nilA)))) (nilA)))))) (nopF)) (retF (callF fL_take (consA (varF 0) (consA (callF fmany_worths (consA (varF 1) (nilA))) (nilA)))))))))
def bL_small_by_s2 : Env → Sto → SR := seqF (ifF (isB (binF eqD (binF ixD (varF 1) (conF (.int 0))) (conF (.str [115, 104, 97, 114, 101])))) (retF (callF fL_lowest (consA (binF subD (callF fL_take (consA (varF 0) (consA (conF (.int 21)) (nilA)))) (conF (.int 10))) (consA (binF addD (conF (.int 1)) (callF fL_take (consA (varF 0) (consA (conF (.int 12)) (nilA))))) (nilA))))) (nopF)) (seqF (ifF (isB (binF eqD (binF ixD (varF 1) (conF (.int 0))) (conF (.str [114, 111, 111, 116])))) (retF (tupF (consA (varF 2) (consA (binF ixD (lstF (consA (tupF (consA (conF (.int 0)) (consA (conF (.int 1)) (nilA)))) (consA (tupF (consA (conF (.int 1)) (consA (conF (.int 1)) (nilA)))) (consA (tupF (consA (negF (conF (.int 1))) (consA (conF (.int 1)) (nilA)))) (consA (tupF (consA (conF (.int 2)) (consA (conF (.int 1)) (nilA)))) (consA (tupF (consA (conF (.int 1)) (consA (conF (.int 2)) (nilA)))) (nilA))))))) (callF fL_take (consA (varF 0) (consA (conF (.int 5)) (nilA))))) (nilA))))) (nopF)) (seqF (ifF (isB (binF eqD (binF ixD (varF 1) (conF (.int 0))) (conF (.str [97, 98, 111, 117, 116])))) (seqF (setF 3 (binF subD (callF fL_take (consA (varF 0) (consA (conF (.int 19)) (nilA)))) (conF (.int 9)))) (retF (iteF (isB (binF neD (varF 3) (conF (.int 0)))) (tupF (consA (varF 3) (consA (binF subD (callF fL_take (consA (varF 0) (consA (conF (.int 9)) (nilA)))) (conF (.int 4))) (nilA)))) (tupF (consA (conF (.int 0)) (consA (conF (.int 0)) (nilA))))))) (nopF)) (seqF (ifF (isB (binF eqD (binF ixD (varF 1) (conF (.int 0))) (conF (.str [115, 117, 114, 101])))) (seqF (setF 4 (binF subD (callF fL_take (consA (varF 0) (consA (conF (.int 5)) (nilA)))) (conF (.int 2)))) (retF (tupF (consA (tupF (consA (varF 4) (consA (conF (.int 1)) (nilA)))) (consA (tupF (consA (binF addD (varF 4) (callF fL_take (consA (varF 0) (consA (binF subD (conF (.int 3)) (varF 4)) (nilA))))) (consA (conF (.int 1)) (nilA)))) (nilA)))))) (nopF)) (retF (callF fL_take (consA (varF 0) (consA (callF fmany_worths (consA (varF 1) (nilA))) (nilA))))))))
def bL_small_by_s3 : Env → Sto → SR := seqF (ifF (isB (binF eqD (binF ixD (varF 1) (conF (.int 0))) (conF (.str [114, 111, 111, 116])))) (retF (tupF (consA (varF 2) (consA (binF ixD (lstF (consA (tupF (consA (conF (.int 0)) (consA (conF (.int 1)) (nilA)))) (consA (tupF (consA (conF (.int 1)) (consA (conF (.int 1)) (nilA)))) (consA (tupF (consA (negF (conF (.int 1))) (consA (conF (.int 1)) (nilA)))) (consA (tupF (consA (conF (.int 2)) (consA (conF (.int 1)) (nilA)))) (consA (tupF (consA (conF (.int 1)) (consA (conF (.int 2)) (nilA)))) (nilA))))))) (callF fL_take (consA (varF 0) (consA (conF (.int 5)) (nilA))))) (nilA))))) (nopF)) (seqF (ifF (isB (binF eqD (binF ixD (varF 1) (conF (.int 0))) (conF (.str [97, 98, 111, 117, 116])))) (seqF (setF 3 (binF subD (callF fL_take (consA (varF 0) (consA (conF (.int 19)) (nilA)))) (conF (.int 9)))) (retF (iteF (isB (binF neD (varF 3) (conF (.int 0)))) (tupF (consA (varF 3) (consA (binF subD (callF fL_take (consA (varF 0) (consA (conF (.int 9)) (nilA)))) (conF (.int 4))) (nilA)))) (tupF (consA (conF (.int 0)) (consA (conF (.int 0)) (nilA))))))) (nopF)) (seqF (ifF (isB (binF eqD (binF ixD (varF 1) (conF (.int 0))) (conF (.str [115, 117, 114, 101])))) (seqF (setF 4 (binF subD (callF fL_take (consA (varF 0) (consA (conF (.int 5)) (nilA)))) (conF (.int 2)))) (retF (tupF (consA (tupF (consA (varF 4) (consA (conF (.int 1)) (nilA)))) (consA (tupF (consA (binF addD (varF 4) (callF fL_take (consA (varF 0) (consA (binF subD (conF (.int 3)) (varF 4)) (nilA))))) (consA (conF (.int 1)) (nilA)))) (nilA)))))) (nopF)) (retF (callF fL_take (consA (varF 0) (consA (callF fmany_worths (consA (varF 1) (nilA))) (nilA)))))))
def bL_small_by_s4 : Env → Sto → SR := seqF (ifF (isB (binF eqD (binF ixD (varF 1) (conF (.int 0))) (conF (.str [97, 98, 111, 117, 116])))) (seqF (setF 3 (binF subD (callF fL_take (consA (varF 0) (consA (conF (.int 19)) (nilA)))) (conF (.int 9)))) (retF (iteF (isB (binF neD (varF 3) (conF (.int 0)))) (tupF (consA (varF 3) (consA (binF subD (callF fL_take (consA (varF 0) (consA (conF (.int 9)) (nilA)))) (conF (.int 4))) (nilA)))) (tupF (consA (conF (.int 0)) (consA (conF (.int 0)) (nilA))))))) (nopF)) (seqF (ifF (isB (binF eqD (binF ixD (varF 1) (conF (.int 0))) (conF (.str [115, 117, 114, 101])))) (seqF (setF 4 (binF subD (callF fL_take (consA (varF 0) (consA (conF (.int 5)) (nilA)))) (conF (.int 2)))) (retF (tupF (consA (tupF (consA (varF 4) (consA (conF (.int 1)) (nilA)))) (consA (tupF (consA (binF addD (varF 4) (callF fL_take (consA (varF 0) (consA (binF subD (conF (.int 3)) (varF 4)) (nilA))))) (consA (conF (.int 1)) (nilA)))) (nilA)))))) (nopF)) (retF (callF fL_take (consA (varF 0) (consA (callF fmany_worths (consA (varF 1) (nilA))) (nilA))))))
def bL_small_by_s5 : Env → Sto → SR := seqF (ifF (isB (binF eqD (binF ixD (varF 1) (conF (.int 0))) (conF (.str [115, 117, 114, 101])))) (seqF (setF 4 (binF subD (callF fL_take (consA (varF 0) (consA (conF (.int 5)) (nilA)))) (conF (.int 2)))) (retF (tupF (consA (tupF (consA (varF 4) (consA (conF (.int 1)) (nilA)))) (consA (tupF (consA (binF addD (varF 4) (callF fL_take (consA (varF 0) (consA (binF subD (conF (.int 3)) (varF 4)) (nilA))))) (consA (conF (.int 1)) (nilA)))) (nilA)))))) (nopF)) (retF (callF fL_take (consA (varF 0) (consA (callF fmany_worths (consA (varF 1) (nilA))) (nilA)))))
def bL_small_by_s6 : Env → Sto → SR := retF (callF fL_take (consA (varF 0) (consA (callF fmany_worths (consA (varF 1) (nilA))) (nilA))))
def bL_small_by : Env → Sto → SR := seqF (setF 2 (callF fL_lowest (consA (binF subD (callF fL_take (consA (varF 0) (consA (conF (.int 9)) (nilA)))) (conF (.int 4))) (consA (binF addD (conF (.int 1)) (callF fL_take (consA (varF 0) (consA (conF (.int 2)) (nilA))))) (nilA))))) (seqF (ifF (isB (binF eqD (binF ixD (varF 1) (conF (.int 0))) (conF (.str [119, 104, 111, 108, 101])))) (retF (binF subD (callF fL_take (consA (varF 0) (consA (conF (.int 401)) (nilA)))) (conF (.int 200)))) (nopF)) (seqF (ifF (isB (binF eqD (binF ixD (varF 1) (conF (.int 0))) (conF (.str [115, 104, 97, 114, 101])))) (retF (callF fL_lowest (consA (binF subD (callF fL_take (consA (varF 0) (consA (conF (.int 21)) (nilA)))) (conF (.int 10))) (consA (binF addD (conF (.int 1)) (callF fL_take (consA (varF 0) (consA (conF (.int 12)) (nilA))))) (nilA))))) (nopF)) (seqF (ifF (isB (binF eqD (binF ixD (varF 1) (conF (.int 0))) (conF (.str [114, 111, 111, 116])))) (retF (tupF (consA (varF 2) (consA (binF ixD (lstF (consA (tupF (consA (conF (.int 0)) (consA (conF (.int 1)) (nilA)))) (consA (tupF (consA (conF (.int 1)) (consA (conF (.int 1)) (nilA)))) (consA (tupF (consA (negF (conF (.int 1))) (consA (conF (.int 1)) (nilA)))) (consA (tupF (consA (conF (.int 2)) (consA (conF (.int 1)) (nilA)))) (consA (tupF (consA (conF (.int 1)) (consA (conF (.int 2)) (nilA)))) (nilA))))))) (callF fL_take (consA (varF 0) (consA (conF (.int 5)) (nilA))))) (nilA))))) (nopF)) (seqF (ifF (isB (binF eqD (binF ixD (varF 1) (conF (.int 0))) (conF (.str [97, 98, 111, 117, 116])))) (seqF (setF 3 (binF subD (callF fL_take (consA (varF 0) (consA (conF (.int 19)) (nilA)))) (conF (.int 9)))) (retF (iteF (isB (binF neD (varF 3) (conF (.int 0)))) (tupF (consA (varF 3) (consA (binF subD (callF fL_take (consA (varF 0) (consA (conF (.int 9)) (nilA)))) (conF (.int 4))) (nilA)))) (tupF (consA (conF (.int 0)) (consA (conF (.int 0)) (nilA))))))) (nopF)) (seqF (ifF (isB (binF eqD (binF ixD (varF 1) (conF (.int 0))) (conF (.str [115, 117, 114, 101])))) (seqF (setF 4 (binF subD (callF fL_take (consA (varF 0) (consA (conF (.int 5)) (nilA)))) (conF (.int 2)))) (retF (tupF (consA (tupF (consA (varF 4) (consA (conF (.int 1)) (nilA)))) (consA (tupF (consA (binF addD (varF 4) (callF fL_take (consA (varF 0) (consA (binF subD (conF (.int 3)) (varF 4)) (nilA))))) (consA (conF (.int 1)) (nilA)))) (nilA)))))) (nopF)) (retF (callF fL_take (consA (varF 0) (consA (callF fmany_worths (consA (varF 1) (nilA))) (nilA))))))))))
def fL_small_by : Fn := fnM 2 3 true bL_small_by
theorem okL_small_by {P : Program} {w : World} {K : PySem.W.Frag} {M : Lm} {mg : Str → Option Value} {base : Heap} {f : Addr} {fd : FuncData} (N : Kn K mg "_law_small_by" sL_small_by ["_law_stream_here", "_law_kind"] f fd) (NA : M.arr = false) (B : Bt mg) (D_L_lowest : Def P w K M mg base "_law_lowest" 2 ["_law_above", "_law_below"] fL_lowest) (D_L_take : Def P w K M mg base "_law_take" 2 ["_law_stream_here", "_law_many"] fL_take) (D_many_worths : Def P w K M mg base "many_worths" 8 ["kind"] fmany_worths) : Def P w K M mg base "_law_small_by" 9 ["_law_stream_here", "_law_kind"] fL_small_by :=
  N.def (FnS.of (k := 8) NA N.fn scL_small_by rfl (by decide) fun cdv hcv A outer s H E hr gd W tk hp => by
    have nd := scL_small_by.nd
    have U : (A.deeper (envOfC "_law_small_by" (defScope sL_small_by) s.heap.objs.size f cdv)).units + 65 < cLine := by
      have := hr.un
      omega
    have U64 := Nat.lt_of_succ_lt U
    have U1 := Nat.lt_of_le_of_lt (Nat.add_le_add_left (show 1 ≤ 65 by decide) _) U
    exact ss_cons (ss_set 2 nd (s_callD D_L_lowest hr gd tk (sa_cons (s_bin sub_ok (s_callD D_L_take hr gd tk (sa_cons (s_var 0) (sa_cons (s_int) (sa_nil)))) (s_int)) (sa_cons (s_bin add_ok (s_int) (s_callD D_L_take hr gd tk (sa_cons (s_var 0) (sa_cons (s_int) (sa_nil))))) (sa_nil))))) (ss_cons (ss_if (st_cmp (eq_ok U64) (s_ix U1 (s_var 1) (s_int)) (s_str [119, 104, 111, 108, 101])) (ss_one (ss_ret (s_bin sub_ok (s_callD D_L_take hr gd tk (sa_cons (s_var 0) (sa_cons (s_int) (sa_nil)))) (s_int)))) (ss_nil)) (ss_cons (ss_if (st_cmp (eq_ok U64) (s_ix U1 (s_var 1) (s_int)) (s_str [115, 104, 97, 114, 101])) (ss_one (ss_ret (s_callD D_L_lowest hr gd tk (sa_cons (s_bin sub_ok (s_callD D_L_take hr gd tk (sa_cons (s_var 0) (sa_cons (s_int) (sa_nil)))) (s_int)) (sa_cons (s_bin add_ok (s_int) (s_callD D_L_take hr gd tk (sa_cons (s_var 0) (sa_cons (s_int) (sa_nil))))) (sa_nil)))))) (ss_nil)) (ss_cons (ss_if (st_cmp (eq_ok U64) (s_ix U1 (s_var 1) (s_int)) (s_str [114, 111, 111, 116])) (ss_one (ss_ret (s_tup (sa_cons (s_var 2) (sa_cons (s_ix U1 (s_lst (sa_cons (s_tup (sa_cons (s_int) (sa_cons (s_int) (sa_nil)))) (sa_cons (s_tup (sa_cons (s_int) (sa_cons (s_int) (sa_nil)))) (sa_cons (s_tup (sa_cons (s_neg (s_int)) (sa_cons (s_int) (sa_nil)))) (sa_cons (s_tup (sa_cons (s_int) (sa_cons (s_int) (sa_nil)))) (sa_cons (s_tup (sa_cons (s_int) (sa_cons (s_int) (sa_nil)))) (sa_nil))))))) (s_callD D_L_take hr gd tk (sa_cons (s_var 0) (sa_cons (s_int) (sa_nil))))) (sa_nil)))))) (ss_nil)) (ss_cons (ss_if (st_cmp (eq_ok U64) (s_ix U1 (s_var 1) (s_int)) (s_str [97, 98, 111, 117, 116])) (ss_cons (ss_set 3 nd (s_bin sub_ok (s_callD D_L_take hr gd tk (sa_cons (s_var 0) (sa_cons (s_int) (sa_nil)))) (s_int))) (ss_one (ss_ret (s_ite (st_cmp (ne_ok U64) (s_var 3) (s_int)) (s_tup (sa_cons (s_var 3) (sa_cons (s_bin sub_ok (s_callD D_L_take hr gd tk (sa_cons (s_var 0) (sa_cons (s_int) (sa_nil)))) (s_int)) (sa_nil)))) (s_tup (sa_cons (s_int) (sa_cons (s_int) (sa_nil)))))))) (ss_nil)) (ss_cons (ss_if (st_cmp (eq_ok U64) (s_ix U1 (s_var 1) (s_int)) (s_str [115, 117, 114, 101])) (ss_cons (ss_set 4 nd (s_bin sub_ok (s_callD D_L_take hr gd tk (sa_cons (s_var 0) (sa_cons (s_int) (sa_nil)))) (s_int))) (ss_one (ss_ret (s_tup (sa_cons (s_tup (sa_cons (s_var 4) (sa_cons (s_int) (sa_nil)))) (sa_cons (s_tup (sa_cons (s_bin add_ok (s_var 4) (s_callD D_L_take hr gd tk (sa_cons (s_var 0) (sa_cons (s_bin sub_ok (s_int) (s_var 4)) (sa_nil))))) (sa_cons (s_int) (sa_nil)))) (sa_nil))))))) (ss_nil)) (ss_one (ss_ret (s_callD D_L_take hr gd tk (sa_cons (s_var 0) (sa_cons (s_callD D_many_worths hr gd tk (sa_cons (s_var 1) (sa_nil))) (sa_nil))))))))))))
abbrev scommon_part : Stmt := topS 9
theorem sccommon_part : FnScope ["one", "other"] ["one", "other"] (defScope scommon_part) := ⟨rfl, rfl, rfl, by decide +kernel, rfl, by decide +kernel, by decide +kernel⟩
def bcommon_part_t0 : Env → Sto → Res Bool := isB (binF neD (varF 1) (conF (.int 0)))
def bcommon_part_w1 : Env → Sto → SR := parF [0, 1] (consA (varF 1) (consA (binF modD (varF 0) (varF 1)) (nilA)))
def bcommon_part : Env → Sto → SR := seqF (parF [0, 1] (consA (callF absM (consA (varF 0) (nilA))) (consA (callF absM (consA (varF 1) (nilA))) (nilA)))) (seqF (whileF bcommon_part_t0 bcommon_part_w1) (retF (varF 0)))
def fcommon_part : Fn := fnM 2 0 true bcommon_part
theorem okcommon_part {P : Program} {w : World} {K : PySem.W.Frag} {M : Lm} {mg : Str → Option Value} {base : Heap} {f : Addr} {fd : FuncData} (N : Kn K mg "common_part" scommon_part ["one", "other"] f fd) (NA : M.arr = false) (B : Bt mg) : Def P w K M mg base "common_part" 1 ["one", "other"] fcommon_part :=
  N.def (FnS.of (k := 0) NA N.fn sccommon_part rfl (by decide) fun cdv hcv A outer s H E hr gd W tk hp => by
    have nd := sccommon_part.nd
    have U : (A.deeper (envOfC "common_part" (defScope scommon_part) s.heap.objs.size f cdv)).units + 65 < cLine := by
      have := hr.un
      omega
    have U64 := Nat.lt_of_succ_lt U
    have U1 := Nat.lt_of_le_of_lt (Nat.add_le_add_left (show 1 ≤ 65 by decide) _) U
    exact ss_cons (ss_par 0 1 rfl nd (sa_cons (s_callB abs_ok (B.b_abs) (sa_cons (s_var 0) (sa_nil)) (hv := bb_abs)) (sa_cons (s_callB abs_ok (B.b_abs) (sa_cons (s_var 1) (sa_nil)) (hv := bb_abs)) (sa_nil)))) (ss_cons (ss_while hp (st_cmp (ne_ok U64) (s_var 1) (s_int)) (ss_one (ss_par 0 1 rfl nd (sa_cons (s_var 1) (sa_cons (s_bin mod_ok (s_var 0) (s_var 1)) (sa_nil)))))) (ss_one (ss_ret (s_var 0)))))
abbrev sis_fraction : Stmt := topS 10
theorem scis_fraction : FnScope ["thing"] ["thing"] (defScope sis_fraction) := ⟨rfl, rfl, rfl, by decide +kernel, rfl, by decide +kernel, by decide +kernel⟩
def bis_fraction : Env → Sto → SR := seqF (ifF (orT (notT (isB (callF isiM (consA (varF 0) (consA (conF (.ty .tuple)) (nilA)))))) (orT (isB (binF neD (callF lenM (consA (varF 0) (nilA))) (conF (.int 2)))) (orT (notT (isB (callF fis_whole (consA (binF ixD (varF 0) (conF (.int 0))) (nilA))))) (notT (isB (callF fis_whole (consA (binF ixD (varF 0) (conF (.int 1))) (nilA)))))))) (retF (conF (.bl false))) (nopF)) (retF (andV (binF gtD (binF ixD (varF 0) (conF (.int 1))) (conF (.int 0))) (binF eqD (callF fcommon_part (consA (binF ixD (varF 0) (conF (.int 0))) (consA (binF ixD (varF 0) (conF (.int 1))) (nilA)))) (conF (.int 1)))))
def fis_fraction : Fn := fnM 1 0 true bis_fraction
theorem okis_fraction {P : Program} {w : World} {K : PySem.W.Frag} {M : Lm} {mg : Str → Option Value} {base : Heap} {f : Addr} {fd : FuncData} (N : Kn K mg "is_fraction" sis_fraction ["thing"] f fd) (NA : M.arr = false) (B : Bt mg) (D_is_whole : Def P w K M mg base "is_whole" 1 ["thing"] fis_whole) (D_common_part : Def P w K M mg base "common_part" 1 ["one", "other"] fcommon_part) : Def P w K M mg base "is_fraction" 2 ["thing"] fis_fraction :=
  N.def (FnS.of (k := 1) NA N.fn scis_fraction rfl (by decide) fun cdv hcv A outer s H E hr gd W tk hp => by
    have nd := scis_fraction.nd
    have U : (A.deeper (envOfC "is_fraction" (defScope sis_fraction) s.heap.objs.size f cdv)).units + 65 < cLine := by
      have := hr.un
      omega
    have U64 := Nat.lt_of_succ_lt U
    have U1 := Nat.lt_of_le_of_lt (Nat.add_le_add_left (show 1 ≤ 65 by decide) _) U
    exact ss_cons (ss_if (st_w (sw_or (st_not (st_val (s_callB isi_ok (B.b_isinstance) (sa_cons (s_var 0) (sa_cons (s_bty .tuple (B.b_tuple) bb_tuple) (sa_nil))) (hv := bb_isinstance)))) (sw_or (st_cmp (ne_ok U64) (s_callB len_ok (B.b_len) (sa_cons (s_var 0) (sa_nil)) (hv := bb_len)) (s_int)) (sw_or (st_not (st_val (s_callD D_is_whole hr gd tk (sa_cons (s_ix U1 (s_var 0) (s_int)) (sa_nil))))) (sw_or1 (st_not (st_val (s_callD D_is_whole hr gd tk (sa_cons (s_ix U1 (s_var 0) (s_int)) (sa_nil)))))))))) (ss_one (ss_ret (s_bl))) (ss_nil)) (ss_one (ss_ret (s_and (s_cmp gt_ok (s_ix U1 (s_var 0) (s_int)) (s_int)) (s_one (s_cmp (eq_ok U64) (s_callD D_common_part hr gd tk (sa_cons (s_ix U1 (s_var 0) (s_int)) (sa_cons (s_ix U1 (s_var 0) (s_int)) (sa_nil)))) (s_int)))))))
abbrev sis_about : Stmt := topS 26
theorem scis_about : FnScope ["figures", "thing"] ["figures", "thing"] (defScope sis_about) := ⟨rfl, rfl, rfl, by decide +kernel, rfl, by decide +kernel, by decide +kernel⟩
def bis_about_s2 : Env → Sto → SR := retF (andV (binF neD (binF modD (binF ixD (varF 1) (conF (.int 0))) (conF (.int 10))) (conF (.int 0))) (binF ltD (callF absM (consA (binF ixD (varF 1) (conF (.int 0))) (nilA))) (binF ixD (lstF (consA (conF (.int 1)) (consA (conF (.int 10)) (consA (conF (.int 100)) (consA (conF (.int 1000)) (nilA)))))) (varF 0))))
def bis_about : Env → Sto → SR := seqF (ifF (orT (notT (isB (callF fis_whole (consA (binF ixD (varF 1) (conF (.int 0))) (nilA))))) (notT (isB (callF fis_among (consA (binF ixD (varF 1) (conF (.int 1))) (consA (binF subD (conF (.int 0)) (conF cMOST_POWER)) (consA (conF cMOST_POWER) (nilA)))))))) (retF (conF (.bl false))) (nopF)) (seqF (ifF (isB (binF eqD (binF ixD (varF 1) (conF (.int 0))) (conF (.int 0)))) (retF (binF eqD (binF ixD (varF 1) (conF (.int 1))) (conF (.int 0)))) (nopF)) (retF (andV (binF neD (binF modD (binF ixD (varF 1) (conF (.int 0))) (conF (.int 10))) (conF (.int 0))) (binF ltD (callF absM (consA (binF ixD (varF 1) (conF (.int 0))) (nilA))) (binF ixD (lstF (consA (conF (.int 1)) (consA (conF (.int 10)) (consA (conF (.int 100)) (consA (conF (.int 1000)) (nilA)))))) (varF 0))))))
def fis_about : Fn := fnM 2 0 true bis_about
theorem okis_about {P : Program} {w : World} {K : PySem.W.Frag} {M : Lm} {mg : Str → Option Value} {base : Heap} {f : Addr} {fd : FuncData} (N : Kn K mg "is_about" sis_about ["figures", "thing"] f fd) (NA : M.arr = false) (B : Bt mg) (C_MOST_POWER : Con K mg "MOST_POWER" cMOST_POWER) (D_is_whole : Def P w K M mg base "is_whole" 1 ["thing"] fis_whole) (D_is_among : Def P w K M mg base "is_among" 2 ["thing", "least", "most"] fis_among) : Def P w K M mg base "is_about" 3 ["figures", "thing"] fis_about :=
  N.def (FnS.of (k := 2) NA N.fn scis_about rfl (by decide) fun cdv hcv A outer s H E hr gd W tk hp => by
    have nd := scis_about.nd
    have U : (A.deeper (envOfC "is_about" (defScope sis_about) s.heap.objs.size f cdv)).units + 65 < cLine := by
      have := hr.un
      omega
    have U64 := Nat.lt_of_succ_lt U
    have U1 := Nat.lt_of_le_of_lt (Nat.add_le_add_left (show 1 ≤ 65 by decide) _) U
    exact ss_cons (ss_if (st_w (sw_or (st_not (st_val (s_callD D_is_whole hr gd tk (sa_cons (s_ix U1 (s_var 1) (s_int)) (sa_nil))))) (sw_or1 (st_not (st_val (s_callD D_is_among hr gd tk (sa_cons (s_ix U1 (s_var 1) (s_int)) (sa_cons (s_bin sub_ok (s_int) (s_con C_MOST_POWER)) (sa_cons (s_con C_MOST_POWER) (sa_nil)))))))))) (ss_one (ss_ret (s_bl))) (ss_nil)) (ss_cons (ss_if (st_cmp (eq_ok U64) (s_ix U1 (s_var 1) (s_int)) (s_int)) (ss_one (ss_ret (s_cmp (eq_ok U64) (s_ix U1 (s_var 1) (s_int)) (s_int)))) (ss_nil)) (ss_one (ss_ret (s_and (s_cmp (ne_ok U64) (s_bin mod_ok (s_ix U1 (s_var 1) (s_int)) (s_int)) (s_int)) (s_one (s_cmp lt_ok (s_callB abs_ok (B.b_abs) (sa_cons (s_ix U1 (s_var 1) (s_int)) (sa_nil)) (hv := bb_abs)) (s_ix U1 (s_lst (sa_cons (s_int) (sa_cons (s_int) (sa_cons (s_int) (sa_cons (s_int) (sa_nil)))))) (s_var 0)))))))))
abbrev sis_less : Stmt := topS 11
theorem scis_less : FnScope ["one", "other"] ["one", "other"] (defScope sis_less) := ⟨rfl, rfl, rfl, by decide +kernel, rfl, by decide +kernel, by decide +kernel⟩
def bis_less : Env → Sto → SR := retF (binF ltD (binF mulD (binF ixD (varF 0) (conF (.int 0))) (binF ixD (varF 1) (conF (.int 1)))) (binF mulD (binF ixD (varF 1) (conF (.int 0))) (binF ixD (varF 0) (conF (.int 1)))))
def fis_less : Fn := fnM 2 0 true bis_less
theorem okis_less {P : Program} {w : World} {K : PySem.W.Frag} {M : Lm} {mg : Str → Option Value} {base : Heap} {f : Addr} {fd : FuncData} (N : Kn K mg "is_less" sis_less ["one", "other"] f fd) (NA : M.arr = false) (B : Bt mg) : Def P w K M mg base "is_less" 1 ["one", "other"] fis_less :=
  N.def (FnS.of (k := 0) NA N.fn scis_less rfl (by decide) fun cdv hcv A outer s H E hr gd W tk hp => by
    have nd := scis_less.nd
    have U : (A.deeper (envOfC "is_less" (defScope sis_less) s.heap.objs.size f cdv)).units + 65 < cLine := by
      have := hr.un
      omega
    have U64 := Nat.lt_of_succ_lt U
    have U1 := Nat.lt_of_le_of_lt (Nat.add_le_add_left (show 1 ≤ 65 by decide) _) U
    exact ss_one (ss_ret (s_cmp lt_ok (s_bin mul_ok (s_ix U1 (s_var 0) (s_int)) (s_ix U1 (s_var 1) (s_int))) (s_bin mul_ok (s_ix U1 (s_var 1) (s_int)) (s_ix U1 (s_var 0) (s_int))))))
abbrev sis_of : Stmt := topS 27
theorem scis_of : FnScope ["kind", "thing"] ["kind", "thing"] (defScope sis_of) := ⟨rfl, rfl, rfl, by decide +kernel, rfl, by decide +kernel, by decide +kernel⟩
def bis_of_s3 : Env → Sto → SR := seqF (ifF (orT (notT (isB (callF isiM (consA (varF 1) (consA (conF (.ty .tuple)) (nilA)))))) (isB (binF neD (callF lenM (consA (varF 1) (nilA))) (conF (.int 2))))) (retF (conF (.bl false))) (nopF)) (seqF (ifF (isB (binF eqD (binF ixD (varF 0) (conF (.int 0))) (conF (.str [97, 98, 111, 117, 116])))) (retF (callF fis_about (consA (binF ixD (varF 0) (conF (.int 1))) (consA (varF 1) (nilA))))) (nopF)) (seqF (ifF (orT (notT (isB (callF fis_fraction (consA (binF ixD (varF 1) (conF (.int 0))) (nilA))))) (notT (isB (callF fis_fraction (consA (binF ixD (varF 1) (conF (.int 1))) (nilA)))))) (retF (conF (.bl false))) (nopF)) (retF (orV (binF eqD (binF ixD (varF 0) (conF (.int 0))) (conF (.str [114, 111, 111, 116]))) (notV (callF fis_less (consA (binF ixD (varF 1) (conF (.int 1))) (consA (binF ixD (varF 1) (conF (.int 0))) (nilA)))))))))
def bis_of_s4 : Env → Sto → SR := seqF (ifF (isB (binF eqD (binF ixD (varF 0) (conF (.int 0))) (conF (.str [97, 98, 111, 117, 116])))) (retF (callF fis_about (consA (binF ixD (varF 0) (conF (.int 1))) (consA (varF 1) (nilA))))) (nopF)) (seqF (ifF (orT (notT (isB (callF fis_fraction (consA (binF ixD (varF 1) (conF (.int 0))) (nilA))))) (notT (isB (callF fis_fraction (consA (binF ixD (varF 1) (conF (.int 1))) (nilA)))))) (retF (conF (.bl false))) (nopF)) (retF (orV (binF eqD (binF ixD (varF 0) (conF (.int 0))) (conF (.str [114, 111, 111, 116]))) (notV (callF fis_less (consA (binF ixD (varF 1) (conF (.int 1))) (consA (binF ixD (varF 1) (conF (.int 0))) (nilA))))))))
def bis_of : Env → Sto → SR := seqF (ifF (isB (binF eqD (binF ixD (varF 0) (conF (.int 0))) (conF (.str [119, 104, 111, 108, 101])))) (retF (callF fis_whole (consA (varF 1) (nilA)))) (nopF)) (seqF (ifF (isB (binF eqD (binF ixD (varF 0) (conF (.int 0))) (conF (.str [115, 104, 97, 114, 101])))) (retF (callF fis_fraction (consA (varF 1) (nilA)))) (nopF)) (seqF (ifF (isB (callF fis_finite (consA (varF 0) (nilA)))) (retF (callF fis_among (consA (varF 1) (consA (conF (.int 0)) (consA (binF subD (callF fmany_worths (consA (varF 0) (nilA))) (conF (.int 1))) (nilA)))))) (nopF)) (seqF (ifF (orT (notT (isB (callF isiM (consA (varF 1) (consA (conF (.ty .tuple)) (nilA)))))) (isB (binF neD (callF lenM (consA (varF 1) (nilA))) (conF (.int 2))))) (retF (conF (.bl false))) (nopF)) (seqF (ifF (isB (binF eqD (binF ixD (varF 0) (conF (.int 0))) (conF (.str [97, 98, 111, 117, 116])))) (retF (callF fis_about (consA (binF ixD (varF 0) (conF (.int 1))) (consA (varF 1) (nilA))))) (nopF)) (seqF (ifF (orT (notT (isB (callF fis_fraction (consA (binF ixD (varF 1) (conF (.int 0))) (nilA))))) (notT (isB (callF fis_fraction (consA (binF ixD (varF 1) (conF (.int 1))) (nilA)))))) (retF (conF (.bl false))) (nopF)) (retF (orV (binF eqD (binF ixD (varF 0) (conF (.int 0))) (conF (.str [114, 111, 111, 116]))) (notV (callF fis_less (consA (binF ixD (varF 1) (conF (.int 1))) (consA (binF ixD (varF 1) (conF (.int 0))) (nilA))))))))))))
def fis_of : Fn := fnM 2 0 true bis_of
theorem okis_of {P : Program} {w : World} {K : PySem.W.Frag} {M : Lm} {mg : Str → Option Value} {base : Heap} {f : Addr} {fd : FuncData} (N : Kn K mg "is_of" sis_of ["kind", "thing"] f fd) (NA : M.arr = false) (B : Bt mg) (D_is_whole : Def P w K M mg base "is_whole" 1 ["thing"] fis_whole) (D_is_fraction : Def P w K M mg base "is_fraction" 2 ["thing"] fis_fraction) (D_is_finite : Def P w K M mg base "is_finite" 7 ["kind"] fis_finite) (D_is_among : Def P w K M mg base "is_among" 2 ["thing", "least", "most"] fis_among) (D_many_worths : Def P w K M mg base "many_worths" 8 ["kind"] fmany_worths) (D_is_about : Def P w K M mg base "is_about" 3 ["figures", "thing"] fis_about) (D_is_less : Def P w K M mg base "is_less" 1 ["one", "other"] fis_less) : Def P w K M mg base "is_of" 9 ["kind", "thing"] fis_of :=
  N.def (FnS.of (k := 8) NA N.fn scis_of rfl (by decide) fun cdv hcv A outer s H E hr gd W tk hp => by
    have nd := scis_of.nd
    have U : (A.deeper (envOfC "is_of" (defScope sis_of) s.heap.objs.size f cdv)).units + 65 < cLine := by
      have := hr.un
      omega
    have U64 := Nat.lt_of_succ_lt U
    have U1 := Nat.lt_of_le_of_lt (Nat.add_le_add_left (show 1 ≤ 65 by decide) _) U
    exact ss_cons (ss_if (st_cmp (eq_ok U64) (s_ix U1 (s_var 0) (s_int)) (s_str [119, 104, 111, 108, 101])) (ss_one (ss_ret (s_callD D_is_whole hr gd tk (sa_cons (s_var 1) (sa_nil))))) (ss_nil)) (ss_cons (ss_if (st_cmp (eq_ok U64) (s_ix U1 (s_var 0) (s_int)) (s_str [115, 104, 97, 114, 101])) (ss_one (ss_ret (s_callD D_is_fraction hr gd tk (sa_cons (s_var 1) (sa_nil))))) (ss_nil)) (ss_cons (ss_if (st_val (s_callD D_is_finite hr gd tk (sa_cons (s_var 0) (sa_nil)))) (ss_one (ss_ret (s_callD D_is_among hr gd tk (sa_cons (s_var 1) (sa_cons (s_int) (sa_cons (s_bin sub_ok (s_callD D_many_worths hr gd tk (sa_cons (s_var 0) (sa_nil))) (s_int)) (sa_nil))))))) (ss_nil)) (ss_cons (ss_if (st_w (sw_or (st_not (st_val (s_callB isi_ok (B.b_isinstance) (sa_cons (s_var 1) (sa_cons (s_bty .tuple (B.b_tuple) bb_tuple) (sa_nil))) (hv := bb_isinstance)))) (sw_or1 (st_cmp (ne_ok U64) (s_callB len_ok (B.b_len) (sa_cons (s_var 1) (sa_nil)) (hv := bb_len)) (s_int))))) (ss_one (ss_ret (s_bl))) (ss_nil)) (ss_cons (ss_if (st_cmp (eq_ok U64) (s_ix U1 (s_var 0) (s_int)) (s_str [97, 98, 111, 117, 116])) (ss_one (ss_ret (s_callD D_is_about hr gd tk (sa_cons (s_ix U1 (s_var 0) (s_int)) (sa_cons (s_var 1) (sa_nil)))))) (ss_nil)) (ss_cons (ss_if (st_w (sw_or (st_not (st_val (s_callD D_is_fraction hr gd tk (sa_cons (s_ix U1 (s_var 1) (s_int)) (sa_nil))))) (sw_or1 (st_not (st_val (s_callD D_is_fraction hr gd tk (sa_cons (s_ix U1 (s_var 1) (s_int)) (sa_nil)))))))) (ss_one (ss_ret (s_bl))) (ss_nil)) (ss_one (ss_ret (s_or (s_cmp (eq_ok U64) (s_ix U1 (s_var 0) (s_int)) (s_str [114, 111, 111, 116])) (s_one (s_not (s_callD D_is_less hr gd tk (sa_cons (s_ix U1 (s_var 1) (s_int)) (sa_cons (s_ix U1 (s_var 1) (s_int)) (sa_nil)))))))))))))))
abbrev sis_worth : Stmt := topS 28
theorem scis_worth : FnScope ["kind", "thing"] ["kind", "thing"] (defScope sis_worth) := ⟨rfl, rfl, rfl, by decide +kernel, rfl, by decide +kernel, by decide +kernel⟩
def bis_worth : Env → Sto → SR := seqF (dropF (callF fneed_kind (consA (varF 0) (nilA)))) (retF (callF fis_of (consA (varF 0) (consA (varF 1) (nilA)))))
def fis_worth : Fn := fnM 2 0 true bis_worth
theorem okis_worth {P : Program} {w : World} {K : PySem.W.Frag} {M : Lm} {mg : Str → Option Value} {base : Heap} {f : Addr} {fd : FuncData} (N : Kn K mg "is_worth" sis_worth ["kind", "thing"] f fd) (NA : M.arr = false) (B : Bt mg) (D_need_kind : Def P w K M mg base "need_kind" 6 ["thing"] fneed_kind) (D_is_of : Def P w K M mg base "is_of" 9 ["kind", "thing"] fis_of) : Def P w K M mg base "is_worth" 10 ["kind", "thing"] fis_worth :=
  N.def (FnS.of (k := 9) NA N.fn scis_worth rfl (by decide) fun cdv hcv A outer s H E hr gd W tk hp => by
    have nd := scis_worth.nd
    have U : (A.deeper (envOfC "is_worth" (defScope sis_worth) s.heap.objs.size f cdv)).units + 65 < cLine := by
      have := hr.un
      omega
    have U64 := Nat.lt_of_succ_lt U
    have U1 := Nat.lt_of_le_of_lt (Nat.add_le_add_left (show 1 ≤ 65 by decide) _) U
    exact ss_cons (ss_expr (s_callD D_need_kind hr gd tk (sa_cons (s_var 0) (sa_nil)))) (ss_one (ss_ret (s_callD D_is_of hr gd tk (sa_cons (s_var 0) (sa_cons (s_var 1) (sa_nil)))))))
abbrev sneed_worth : Stmt := topS 29
theorem scneed_worth : FnScope ["kind", "thing"] ["kind", "thing"] (defScope sneed_worth) := ⟨rfl, rfl, rfl, by decide +kernel, rfl, by decide +kernel, by decide +kernel⟩
def bneed_worth : Env → Sto → SR := ifF (notT (isB (callF fis_worth (consA (varF 0) (consA (varF 1) (nilA)))))) (raiseF 2) (nopF)
def fneed_worth : Fn := fnM 2 0 true bneed_worth
theorem okneed_worth {P : Program} {w : World} {K : PySem.W.Frag} {M : Lm} {mg : Str → Option Value} {base : Heap} {f : Addr} {fd : FuncData} (N : Kn K mg "need_worth" sneed_worth ["kind", "thing"] f fd) (NA : M.arr = false) (B : Bt mg) (D_is_worth : Def P w K M mg base "is_worth" 10 ["kind", "thing"] fis_worth) (G_BadWorth : mg "BadWorth" = some (.ref (M.cls 2))) (X_BadWorth : XcF K (M.cls 2)) : Def P w K M mg base "need_worth" 11 ["kind", "thing"] fneed_worth :=
  N.def (FnS.of (k := 10) NA N.fn scneed_worth rfl (by decide) fun cdv hcv A outer s H E hr gd W tk hp => by
    have nd := scneed_worth.nd
    have U : (A.deeper (envOfC "need_worth" (defScope sneed_worth) s.heap.objs.size f cdv)).units + 65 < cLine := by
      have := hr.un
      omega
    have U64 := Nat.lt_of_succ_lt U
    have U1 := Nat.lt_of_le_of_lt (Nat.add_le_add_left (show 1 ≤ 65 by decide) _) U
    exact ss_one (ss_if (st_not (st_val (s_callD D_is_worth hr gd tk (sa_cons (s_var 0) (sa_cons (s_var 1) (sa_nil)))))) (ss_one (ss_raise 2 rfl tk X_BadWorth G_BadWorth)) (ss_nil)))
abbrev sshares_of : Stmt := topS 31
theorem scshares_of : FnScope ["together", "found", "below", "above"] ["together"] (defScope sshares_of) := ⟨rfl, rfl, rfl, by decide +kernel, rfl, by decide +kernel, by decide +kernel⟩
def bshares_of_l0 : Env → Sto → SR := seqF (setF 3 (binF subD (varF 0) (varF 2))) (ifF (isB (binF eqD (callF fcommon_part (consA (varF 3) (consA (varF 2) (nilA)))) (conF (.int 1)))) (seqF (dropF (mtF .list appM (varF 1) (consA (tupF (consA (varF 3) (consA (varF 2) (nilA)))) (nilA)))) (ifF (isB (binF gtD (varF 3) (conF (.int 0)))) (dropF (mtF .list appM (varF 1) (consA (tupF (consA (binF subD (conF (.int 0)) (varF 3)) (consA (varF 2) (nilA)))) (nilA)))) (nopF))) (nopF))
def bshares_of : Env → Sto → SR := seqF (setF 1 (lstO (nilA))) (seqF (itF (itR2 (consA (conF (.int 1)) (consA (binF addD (varF 0) (conF (.int 1))) (nilA)))) (.one 2) bshares_of_l0) (retF (varF 1)))
def fshares_of : Fn := fnM 1 3 true bshares_of
theorem okshares_of {P : Program} {w : World} {K : PySem.W.Frag} {M : Lm} {mg : Str → Option Value} {base : Heap} {f : Addr} {fd : FuncData} (N : Kn K mg "shares_of" sshares_of ["together"] f fd) (NA : M.arr = false) (B : Bt mg) (D_common_part : Def P w K M mg base "common_part" 1 ["one", "other"] fcommon_part) : Def P w K M mg base "shares_of" 2 ["together"] fshares_of :=
  N.def (FnS.of (k := 1) NA N.fn scshares_of rfl (by decide) fun cdv hcv A outer s H E hr gd W tk hp => by
    have nd := scshares_of.nd
    have U : (A.deeper (envOfC "shares_of" (defScope sshares_of) s.heap.objs.size f cdv)).units + 65 < cLine := by
      have := hr.un
      omega
    have U64 := Nat.lt_of_succ_lt U
    have U1 := Nat.lt_of_le_of_lt (Nat.add_le_add_left (show 1 ≤ 65 by decide) _) U
    exact ss_cons (ss_set 1 nd (s_lstO (sa_nil))) (ss_cons (ss_for hp rfl (si_range2 (sa_cons (s_int) (sa_cons (s_bin add_ok (s_var 0) (s_int)) (sa_nil))) (B.b_range)) (sg_name 2 nd) (ss_cons (ss_set 3 nd (s_bin sub_ok (s_var 0) (s_var 2))) (ss_one (ss_if (st_cmp (eq_ok U64) (s_callD D_common_part hr gd tk (sa_cons (s_var 3) (sa_cons (s_var 2) (sa_nil)))) (s_int)) (ss_cons (ss_expr (s_mt (t := .list) app_ok (s_var 1) (sa_cons (s_tup (sa_cons (s_var 3) (sa_cons (s_var 2) (sa_nil)))) (sa_nil)) PySem.F.plainAttrs_list PySem.F.slot_list_append PySem.F.type_list_append)) (ss_one (ss_if (st_cmp gt_ok (s_var 3) (s_int)) (ss_one (ss_expr (s_mt (t := .list) app_ok (s_var 1) (sa_cons (s_tup (sa_cons (s_bin sub_ok (s_int) (s_var 3)) (sa_cons (s_var 2) (sa_nil)))) (sa_nil)) PySem.F.plainAttrs_list PySem.F.slot_list_append PySem.F.type_list_append))) (ss_nil)))) (ss_nil))))) (ss_one (ss_ret (s_var 1)))))
abbrev sshare_place : Stmt := topS 38
abbrev nshare_place : List Str := ["one", "together", "found", "less"]
theorem scshare_place : FnScope ["one", "together", "found", "less"] ["one"] (defScope sshare_place) := ⟨rfl, rfl, rfl, by decide +kernel, rfl, by decide +kernel, by decide +kernel⟩
def bshare_place_e0 : Env → Sto → Res D := callF lenM (consA (callF fshares_of (consA (varF 3) (nilA))) (nilA))
def bshare_place : Env → Sto → SR := seqF (setF 1 (binF addD (callF absM (consA (binF ixD (varF 0) (conF (.int 0))) (nilA))) (binF ixD (varF 0) (conF (.int 1))))) (seqF (ifF (isB (binF gtD (varF 1) (conF cFARTHEST))) (retF (binF addD (conF cMOST_PLACE) (conF (.int 1)))) (nopF)) (seqF (setF 2 (callF sumM (consA (lcF [3] (itR2 (consA (conF (.int 1)) (consA (varF 1) (nilA)))) (.one 3) yesF bshare_place_e0) (nilA)))) (retF (binF addD (varF 2) (mtF .list lindexM (callF fshares_of (consA (varF 1) (nilA))) (consA (varF 0) (nilA)))))))
def fshare_place : Fn := fnM 1 3 true bshare_place
theorem okshare_place {P : Program} {w : World} {K : PySem.W.Frag} {M : Lm} {mg : Str → Option Value} {base : Heap} {f : Addr} {fd : FuncData} (N : Kn K mg "share_place" sshare_place ["one"] f fd) (NA : M.arr = false) (B : Bt mg) (C_FARTHEST : Con K mg "FARTHEST" cFARTHEST) (C_MOST_PLACE : Con K mg "MOST_PLACE" cMOST_PLACE) (D_shares_of : Def P w K M mg base "shares_of" 2 ["together"] fshares_of) : Def P w K M mg base "share_place" 3 ["one"] fshare_place :=
  N.def (FnS.of (k := 2) NA N.fn scshare_place rfl (by decide) fun cdv hcv A outer s H E hr gd W tk hp => by
    have nd := scshare_place.nd
    have U : (A.deeper (envOfC "share_place" (defScope sshare_place) s.heap.objs.size f cdv)).units + 65 < cLine := by
      have := hr.un
      omega
    have U64 := Nat.lt_of_succ_lt U
    have U1 := Nat.lt_of_le_of_lt (Nat.add_le_add_left (show 1 ≤ 65 by decide) _) U
    exact ss_cons (ss_set 1 nd (s_bin add_ok (s_callB abs_ok (B.b_abs) (sa_cons (s_ix U1 (s_var 0) (s_int)) (sa_nil)) (hv := bb_abs)) (s_ix U1 (s_var 0) (s_int)))) (ss_cons (ss_if (st_cmp gt_ok (s_var 1) (s_con C_FARTHEST)) (ss_one (ss_ret (s_bin add_ok (s_con C_MOST_PLACE) (s_int)))) (ss_nil)) (ss_cons (ss_set 2 nd (s_callB (sum_ok rfl) (B.b_sum) (sa_cons (s_lc [("less", 3)] rfl nd (si_range2 (sa_cons (s_int) (sa_cons (s_var 1) (sa_nil))) (B.b_range)) (blkOk_by (N := nshare_place) (sc := defScope sshare_place) (by decide +kernel)) (sg2_name 3 fun _ => pg_name (i := 3) nd rfl (by first | exact Or.inl rfl | exact Or.inr rfl)) (fun _ => sts_nil) (fun _ => s_callB len_ok (B.b_len) (sa_cons (s_callD D_shares_of hr gd takes_W0 (sa_cons (s_var 3) (sa_nil))) (sa_nil)) (hv := bb_len))) (sa_nil)) (hv := bb_sum))) (ss_one (ss_ret (s_bin add_ok (s_var 2) (s_mt (t := .list) (lindex_ok U) (s_callD D_shares_of hr gd tk (sa_cons (s_var 1) (sa_nil))) (sa_cons (s_var 0) (sa_nil)) PySem.F.plainAttrs_list PySem.F.slot_list_index PySem.F.type_list_index)))))))
abbrev sroot_place : Stmt := topS 40
theorem scroot_place : FnScope ["one", "first", "second", "most"] ["one"] (defScope sroot_place) := ⟨rfl, rfl, rfl, by decide +kernel, rfl, by decide +kernel, by decide +kernel⟩
def broot_place : Env → Sto → SR := seqF (parF [1, 2] (consA (callF fshare_place (consA (binF ixD (varF 0) (conF (.int 0))) (nilA))) (consA (callF fshare_place (consA (binF ixD (varF 0) (conF (.int 1))) (nilA))) (nilA)))) (seqF (setF 3 (callF max2M (consA (varF 1) (consA (varF 2) (nilA))))) (retF (binF addD (binF mulD (varF 3) (varF 3)) (iteF (isB (binF ltD (varF 1) (varF 3))) (varF 1) (binF addD (varF 3) (varF 2))))))
def froot_place : Fn := fnM 1 3 true broot_place
theorem okroot_place {P : Program} {w : World} {K : PySem.W.Frag} {M : Lm} {mg : Str → Option Value} {base : Heap} {f : Addr} {fd : FuncData} (N : Kn K mg "root_place" sroot_place ["one"] f fd) (NA : M.arr = false) (B : Bt mg) (D_share_place : Def P w K M mg base "share_place" 3 ["one"] fshare_place) : Def P w K M mg base "root_place" 4 ["one"] froot_place :=
  N.def (FnS.of (k := 3) NA N.fn scroot_place rfl (by decide) fun cdv hcv A outer s H E hr gd W tk hp => by
    have nd := scroot_place.nd
    have U : (A.deeper (envOfC "root_place" (defScope sroot_place) s.heap.objs.size f cdv)).units + 65 < cLine := by
      have := hr.un
      omega
    have U64 := Nat.lt_of_succ_lt U
    have U1 := Nat.lt_of_le_of_lt (Nat.add_le_add_left (show 1 ≤ 65 by decide) _) U
    exact ss_cons (ss_par 1 2 rfl nd (sa_cons (s_callD D_share_place hr gd tk (sa_cons (s_ix U1 (s_var 0) (s_int)) (sa_nil))) (sa_cons (s_callD D_share_place hr gd tk (sa_cons (s_ix U1 (s_var 0) (s_int)) (sa_nil))) (sa_nil)))) (ss_cons (ss_set 3 nd (s_callB (max2_ok rfl) (B.b_max) (sa_cons (s_var 1) (sa_cons (s_var 2) (sa_nil))) (hv := bb_max))) (ss_one (ss_ret (s_bin add_ok (s_bin mul_ok (s_var 3) (s_var 3)) (s_ite (st_cmp lt_ok (s_var 1) (s_var 3)) (s_var 1) (s_bin add_ok (s_var 3) (s_var 2))))))))
abbrev sabouts_of : Stmt := topS 32
theorem scabouts_of : FnScope ["figures", "together", "found", "power", "sign", "one"] ["figures", "together"] (defScope sabouts_of) := ⟨rfl, rfl, rfl, by decide +kernel, rfl, by decide +kernel, by decide +kernel⟩
def babouts_of_l0 : Env → Sto → SR := ifF (isB (callF fis_about (consA (varF 0) (consA (tupF (consA (varF 5) (consA (binF mulD (varF 4) (varF 3)) (nilA)))) (nilA))))) (dropF (mtF .list appM (varF 2) (consA (tupF (consA (varF 5) (consA (binF mulD (varF 4) (varF 3)) (nilA)))) (nilA)))) (nopF)
def babouts_of_l1 : Env → Sto → SR := itF (itS (tupF (consA (binF subD (varF 1) (varF 3)) (consA (binF subD (varF 3) (varF 1)) (nilA))))) (.one 5) babouts_of_l0
def babouts_of_l2 : Env → Sto → SR := itF (itS (sliceF (tupF (consA (conF (.int 1)) (consA (negF (conF (.int 1))) (nilA)))) (noPart) (partF (binF addD (conF (.int 1)) (callF intM (consA (binF gtD (varF 3) (conF (.int 0))) (nilA))))))) (.one 4) babouts_of_l1
def babouts_of : Env → Sto → SR := seqF (ifF (isB (binF eqD (varF 1) (conF (.int 0)))) (retF (lstF (consA (tupF (consA (conF (.int 0)) (consA (conF (.int 0)) (nilA)))) (nilA)))) (nopF)) (seqF (setF 2 (lstO (nilA))) (seqF (itF (itR1 (consA (varF 1) (nilA))) (.one 3) babouts_of_l2) (retF (varF 2))))
def fabouts_of : Fn := fnM 2 4 true babouts_of
theorem okabouts_of {P : Program} {w : World} {K : PySem.W.Frag} {M : Lm} {mg : Str → Option Value} {base : Heap} {f : Addr} {fd : FuncData} (N : Kn K mg "abouts_of" sabouts_of ["figures", "together"] f fd) (NA : M.arr = false) (B : Bt mg) (D_is_about : Def P w K M mg base "is_about" 3 ["figures", "thing"] fis_about) : Def P w K M mg base "abouts_of" 4 ["figures", "together"] fabouts_of :=
  N.def (FnS.of (k := 3) NA N.fn scabouts_of rfl (by decide) fun cdv hcv A outer s H E hr gd W tk hp => by
    have nd := scabouts_of.nd
    have U : (A.deeper (envOfC "abouts_of" (defScope sabouts_of) s.heap.objs.size f cdv)).units + 65 < cLine := by
      have := hr.un
      omega
    have U64 := Nat.lt_of_succ_lt U
    have U1 := Nat.lt_of_le_of_lt (Nat.add_le_add_left (show 1 ≤ 65 by decide) _) U
    exact ss_cons (ss_if (st_cmp (eq_ok U64) (s_var 1) (s_int)) (ss_one (ss_ret (s_lst (sa_cons (s_tup (sa_cons (s_int) (sa_cons (s_int) (sa_nil)))) (sa_nil))))) (ss_nil)) (ss_cons (ss_set 2 nd (s_lstO (sa_nil))) (ss_cons (ss_for hp rfl (si_range1 (sa_cons (s_var 1) (sa_nil)) (B.b_range)) (sg_name 3 nd) (ss_one (ss_for hp rfl (si_seq (s_slice (s_tup (sa_cons (s_int) (sa_cons (s_neg (s_int)) (sa_nil)))) (sp_none) (sp_some (s_bin add_ok (s_int) (s_callTy int_ok (B.b_int) (sa_cons (s_cmp gt_ok (s_var 3) (s_int)) (sa_nil)) (hv := bb_int)))))) (sg_name 4 nd) (ss_one (ss_for hp rfl (si_seq (s_tup (sa_cons (s_bin sub_ok (s_var 1) (s_var 3)) (sa_cons (s_bin sub_ok (s_var 3) (s_var 1)) (sa_nil))))) (sg_name 5 nd) (ss_one (ss_if (st_val (s_callD D_is_about hr gd tk (sa_cons (s_var 0) (sa_cons (s_tup (sa_cons (s_var 5) (sa_cons (s_bin mul_ok (s_var 4) (s_var 3)) (sa_nil)))) (sa_nil))))) (ss_one (ss_expr (s_mt (t := .list) app_ok (s_var 2) (sa_cons (s_tup (sa_cons (s_var 5) (sa_cons (s_bin mul_ok (s_var 4) (s_var 3)) (sa_nil)))) (sa_nil)) PySem.F.plainAttrs_list PySem.F.slot_list_append PySem.F.type_list_append))) (ss_nil)))))))) (ss_one (ss_ret (s_var 2))))))
abbrev sabout_place : Stmt := topS 39
abbrev nabout_place : List Str := ["figures", "one", "together", "found", "less"]
theorem scabout_place : FnScope ["figures", "one", "together", "found", "less"] ["figures", "one"] (defScope sabout_place) := ⟨rfl, rfl, rfl, by decide +kernel, rfl, by decide +kernel, by decide +kernel⟩
def babout_place_e0 : Env → Sto → Res D := callF lenM (consA (callF fabouts_of (consA (varF 0) (consA (varF 4) (nilA)))) (nilA))
def babout_place : Env → Sto → SR := seqF (setF 2 (binF addD (callF absM (consA (binF ixD (varF 1) (conF (.int 0))) (nilA))) (callF absM (consA (binF ixD (varF 1) (conF (.int 1))) (nilA))))) (seqF (ifF (isB (binF gtD (varF 2) (conF cFARTHEST))) (retF (binF addD (conF cMOST_PLACE) (conF (.int 1)))) (nopF)) (seqF (setF 3 (callF sumM (consA (lcF [4] (itR1 (consA (varF 2) (nilA))) (.one 4) yesF babout_place_e0) (nilA)))) (retF (binF addD (varF 3) (mtF .list lindexM (callF fabouts_of (consA (varF 0) (consA (varF 2) (nilA)))) (consA (varF 1) (nilA)))))))
def fabout_place : Fn := fnM 2 3 true babout_place
theorem okabout_place {P : Program} {w : World} {K : PySem.W.Frag} {M : Lm} {mg : Str → Option Value} {base : Heap} {f : Addr} {fd : FuncData} (N : Kn K mg "about_place" sabout_place ["figures", "one"] f fd) (NA : M.arr = false) (B : Bt mg) (C_FARTHEST : Con K mg "FARTHEST" cFARTHEST) (C_MOST_PLACE : Con K mg "MOST_PLACE" cMOST_PLACE) (D_abouts_of : Def P w K M mg base "abouts_of" 4 ["figures", "together"] fabouts_of) : Def P w K M mg base "about_place" 5 ["figures", "one"] fabout_place :=
  N.def (FnS.of (k := 4) NA N.fn scabout_place rfl (by decide) fun cdv hcv A outer s H E hr gd W tk hp => by
    have nd := scabout_place.nd
    have U : (A.deeper (envOfC "about_place" (defScope sabout_place) s.heap.objs.size f cdv)).units + 65 < cLine := by
      have := hr.un
      omega
    have U64 := Nat.lt_of_succ_lt U
    have U1 := Nat.lt_of_le_of_lt (Nat.add_le_add_left (show 1 ≤ 65 by decide) _) U
    exact ss_cons (ss_set 2 nd (s_bin add_ok (s_callB abs_ok (B.b_abs) (sa_cons (s_ix U1 (s_var 1) (s_int)) (sa_nil)) (hv := bb_abs)) (s_callB abs_ok (B.b_abs) (sa_cons (s_ix U1 (s_var 1) (s_int)) (sa_nil)) (hv := bb_abs)))) (ss_cons (ss_if (st_cmp gt_ok (s_var 2) (s_con C_FARTHEST)) (ss_one (ss_ret (s_bin add_ok (s_con C_MOST_PLACE) (s_int)))) (ss_nil)) (ss_cons (ss_set 3 nd (s_callB (sum_ok rfl) (B.b_sum) (sa_cons (s_lc [("less", 4)] rfl nd (si_range1 (sa_cons (s_var 2) (sa_nil)) (B.b_range)) (blkOk_by (N := nabout_place) (sc := defScope sabout_place) (by decide +kernel)) (sg2_name 4 fun _ => pg_name (i := 4) nd rfl (by first | exact Or.inl rfl | exact Or.inr rfl)) (fun _ => sts_nil) (fun _ => s_callB len_ok (B.b_len) (sa_cons (s_callD D_abouts_of hr gd takes_W0 (sa_cons (s_var 0) (sa_cons (s_var 4) (sa_nil)))) (sa_nil)) (hv := bb_len))) (sa_nil)) (hv := bb_sum))) (ss_one (ss_ret (s_bin add_ok (s_var 3) (s_mt (t := .list) (lindex_ok U) (s_callD D_abouts_of hr gd tk (sa_cons (s_var 0) (sa_cons (s_var 2) (sa_nil)))) (sa_cons (s_var 1) (sa_nil)) PySem.F.plainAttrs_list PySem.F.slot_list_index PySem.F.type_list_index)))))))
abbrev ssure_worths : Stmt := topS 36
theorem scsure_worths : FnScope ["found", "wide", "low"] [] (defScope ssure_worths) := ⟨rfl, rfl, rfl, by decide +kernel, rfl, by decide +kernel, by decide +kernel⟩
def bsure_worths_l0 : Env → Sto → SR := dropF (mtF .list appM (varF 0) (consA (tupF (consA (tupF (consA (varF 2) (consA (conF (.int 1)) (nilA)))) (consA (tupF (consA (binF addD (varF 2) (varF 1)) (consA (conF (.int 1)) (nilA)))) (nilA)))) (nilA)))
def bsure_worths_l1 : Env → Sto → SR := itF (itR2 (consA (binF subD (conF (.int 0)) (conF cWIDEST)) (consA (binF subD (binF addD (conF cWIDEST) (conF (.int 1))) (varF 1)) (nilA)))) (.one 2) bsure_worths_l0
def bsure_worths : Env → Sto → SR := seqF (setF 0 (lstO (nilA))) (seqF (itF (itR1 (consA (binF addD (binF mulD (conF (.int 2)) (conF cWIDEST)) (conF (.int 1))) (nilA))) (.one 1) bsure_worths_l1) (retF (varF 0)))
def fsure_worths : Fn := fnM 0 3 true bsure_worths
theorem oksure_worths {P : Program} {w : World} {K : PySem.W.Frag} {M : Lm} {mg : Str → Option Value} {base : Heap} {f : Addr} {fd : FuncData} (N : Kn K mg "sure_worths" ssure_worths [] f fd) (NA : M.arr = false) (B : Bt mg) (C_WIDEST : Con K mg "WIDEST" cWIDEST) : Def P w K M mg base "sure_worths" 1 [] fsure_worths :=
  N.def (FnS.of (k := 0) NA N.fn scsure_worths rfl (by decide) fun cdv hcv A outer s H E hr gd W tk hp => by
    have nd := scsure_worths.nd
    have U : (A.deeper (envOfC "sure_worths" (defScope ssure_worths) s.heap.objs.size f cdv)).units + 65 < cLine := by
      have := hr.un
      omega
    have U64 := Nat.lt_of_succ_lt U
    have U1 := Nat.lt_of_le_of_lt (Nat.add_le_add_left (show 1 ≤ 65 by decide) _) U
    exact ss_cons (ss_set 0 nd (s_lstO (sa_nil))) (ss_cons (ss_for hp rfl (si_range1 (sa_cons (s_bin add_ok (s_bin mul_ok (s_int) (s_con C_WIDEST)) (s_int)) (sa_nil)) (B.b_range)) (sg_name 1 nd) (ss_one (ss_for hp rfl (si_range2 (sa_cons (s_bin sub_ok (s_int) (s_con C_WIDEST)) (sa_cons (s_bin sub_ok (s_bin add_ok (s_con C_WIDEST) (s_int)) (s_var 1)) (sa_nil))) (B.b_range)) (sg_name 2 nd) (ss_one (ss_expr (s_mt (t := .list) app_ok (s_var 0) (sa_cons (s_tup (sa_cons (s_tup (sa_cons (s_var 2) (sa_cons (s_int) (sa_nil)))) (sa_cons (s_tup (sa_cons (s_bin add_ok (s_var 2) (s_var 1)) (sa_cons (s_int) (sa_nil)))) (sa_nil)))) (sa_nil)) PySem.F.plainAttrs_list PySem.F.slot_list_append PySem.F.type_list_append)))))) (ss_one (ss_ret (s_var 0)))))
abbrev splace_of : Stmt := topS 41
theorem scplace_of : FnScope ["kind", "worth", "found"] ["kind", "worth"] (defScope splace_of) := ⟨rfl, rfl, rfl, by decide +kernel, rfl, by decide +kernel, by decide +kernel⟩
def bplace_of_s3 : Env → Sto → SR := seqF (ifF (isB (binF gtD (varF 2) (conF cMOST_PLACE))) (raiseF 3) (nopF)) (retF (varF 2))
def bplace_of : Env → Sto → SR := seqF (dropF (callF fneed_worth (consA (varF 0) (consA (varF 1) (nilA))))) (seqF (setF 2 (varF 1)) (seqF (ifF (isB (binF eqD (binF ixD (varF 0) (conF (.int 0))) (conF (.str [119, 104, 111, 108, 101])))) (setF 2 (binF subD (binF mulD (conF (.int 2)) (callF absM (consA (varF 1) (nilA)))) (callF intM (consA (binF gtD (varF 1) (conF (.int 0))) (nilA))))) (ifF (isB (binF eqD (binF ixD (varF 0) (conF (.int 0))) (conF (.str [115, 104, 97, 114, 101])))) (setF 2 (callF fshare_place (consA (varF 1) (nilA)))) (ifF (isB (binF eqD (binF ixD (varF 0) (conF (.int 0))) (conF (.str [114, 111, 111, 116])))) (setF 2 (callF froot_place (consA (varF 1) (nilA)))) (ifF (isB (binF eqD (binF ixD (varF 0) (conF (.int 0))) (conF (.str [97, 98, 111, 117, 116])))) (setF 2 (callF fabout_place (consA (binF ixD (varF 0) (conF (.int 1))) (consA (varF 1) (nilA))))) (ifF (isB (binF eqD (binF ixD (varF 0) (conF (.int 0))) (conF (.str [115, 117, 114, 101])))) (setF 2 (iteF (isB (binF (inD false) (varF 1) (callF fsure_worths nilA))) (mtF .list lindexM (callF fsure_worths nilA) (consA (varF 1) (nilA))) (binF addD (conF cMOST_PLACE) (conF (.int 1))))) (nopF)))))) (seqF (ifF (isB (binF gtD (varF 2) (conF cMOST_PLACE))) (raiseF 3) (nopF)) (retF (varF 2)))))
def fplace_of : Fn := fnM 2 1 true bplace_of
theorem okplace_of {P : Program} {w : World} {K : PySem.W.Frag} {M : Lm} {mg : Str → Option Value} {base : Heap} {f : Addr} {fd : FuncData} (N : Kn K mg "place_of" splace_of ["kind", "worth"] f fd) (NA : M.arr = false) (B : Bt mg) (C_MOST_PLACE : Con K mg "MOST_PLACE" cMOST_PLACE) (D_need_worth : Def P w K M mg base "need_worth" 11 ["kind", "thing"] fneed_worth) (D_share_place : Def P w K M mg base "share_place" 3 ["one"] fshare_place) (D_root_place : Def P w K M mg base "root_place" 4 ["one"] froot_place) (D_about_place : Def P w K M mg base "about_place" 5 ["figures", "one"] fabout_place) (D_sure_worths : Def P w K M mg base "sure_worths" 1 [] fsure_worths) (G_BadNumber : mg "BadNumber" = some (.ref (M.cls 3))) (X_BadNumber : XcF K (M.cls 3)) : Def P w K M mg base "place_of" 12 ["kind", "worth"] fplace_of :=
  N.def (FnS.of (k := 11) NA N.fn scplace_of rfl (by decide) fun cdv hcv A outer s H E hr gd W tk hp => by
    have nd := scplace_of.nd
    have U : (A.deeper (envOfC "place_of" (defScope splace_of) s.heap.objs.size f cdv)).units + 65 < cLine := by
      have := hr.un
      omega
    have U64 := Nat.lt_of_succ_lt U
    have U1 := Nat.lt_of_le_of_lt (Nat.add_le_add_left (show 1 ≤ 65 by decide) _) U
    exact ss_cons (ss_expr (s_callD D_need_worth hr gd tk (sa_cons (s_var 0) (sa_cons (s_var 1) (sa_nil))))) (ss_cons (ss_set 2 nd (s_var 1)) (ss_cons (ss_if (st_cmp (eq_ok U64) (s_ix U1 (s_var 0) (s_int)) (s_str [119, 104, 111, 108, 101])) (ss_one (ss_set 2 nd (s_bin sub_ok (s_bin mul_ok (s_int) (s_callB abs_ok (B.b_abs) (sa_cons (s_var 1) (sa_nil)) (hv := bb_abs))) (s_callTy int_ok (B.b_int) (sa_cons (s_cmp gt_ok (s_var 1) (s_int)) (sa_nil)) (hv := bb_int))))) (ss_one (ss_if (st_cmp (eq_ok U64) (s_ix U1 (s_var 0) (s_int)) (s_str [115, 104, 97, 114, 101])) (ss_one (ss_set 2 nd (s_callD D_share_place hr gd tk (sa_cons (s_var 1) (sa_nil))))) (ss_one (ss_if (st_cmp (eq_ok U64) (s_ix U1 (s_var 0) (s_int)) (s_str [114, 111, 111, 116])) (ss_one (ss_set 2 nd (s_callD D_root_place hr gd tk (sa_cons (s_var 1) (sa_nil))))) (ss_one (ss_if (st_cmp (eq_ok U64) (s_ix U1 (s_var 0) (s_int)) (s_str [97, 98, 111, 117, 116])) (ss_one (ss_set 2 nd (s_callD D_about_place hr gd tk (sa_cons (s_ix U1 (s_var 0) (s_int)) (sa_cons (s_var 1) (sa_nil)))))) (ss_one (ss_if (st_cmp (eq_ok U64) (s_ix U1 (s_var 0) (s_int)) (s_str [115, 117, 114, 101])) (ss_one (ss_set 2 nd (s_ite (st_cmp (in_ok U) (s_var 1) (s_callD0 D_sure_worths hr gd tk)) (s_mt (t := .list) (lindex_ok U) (s_callD0 D_sure_worths hr gd tk) (sa_cons (s_var 1) (sa_nil)) PySem.F.plainAttrs_list PySem.F.slot_list_index PySem.F.type_list_index) (s_bin add_ok (s_con C_MOST_PLACE) (s_int))))) (ss_nil)))))))))) (ss_cons (ss_if (st_cmp gt_ok (s_var 2) (s_con C_MOST_PLACE)) (ss_one (ss_raise 3 rfl tk X_BadNumber G_BadNumber)) (ss_nil)) (ss_one (ss_ret (s_var 2)))))))
abbrev swhole_at : Stmt := topS 30
theorem scwhole_at : FnScope ["number"] ["number"] (defScope swhole_at) := ⟨rfl, rfl, rfl, by decide +kernel, rfl, by decide +kernel, by decide +kernel⟩
def bwhole_at : Env → Sto → SR := retF (iteF (isB (binF eqD (binF modD (varF 0) (conF (.int 2))) (conF (.int 1)))) (binF fdivD (binF addD (varF 0) (conF (.int 1))) (conF (.int 2))) (binF subD (conF (.int 0)) (binF fdivD (varF 0) (conF (.int 2)))))
def fwhole_at : Fn := fnM 1 0 true bwhole_at
theorem okwhole_at {P : Program} {w : World} {K : PySem.W.Frag} {M : Lm} {mg : Str → Option Value} {base : Heap} {f : Addr} {fd : FuncData} (N : Kn K mg "whole_at" swhole_at ["number"] f fd) (NA : M.arr = false) (B : Bt mg) : Def P w K M mg base "whole_at" 1 ["number"] fwhole_at :=
  N.def (FnS.of (k := 0) NA N.fn scwhole_at rfl (by decide) fun cdv hcv A outer s H E hr gd W tk hp => by
    have nd := scwhole_at.nd
    have U : (A.deeper (envOfC "whole_at" (defScope swhole_at) s.heap.objs.size f cdv)).units + 65 < cLine := by
      have := hr.un
      omega
    have U64 := Nat.lt_of_succ_lt U
    have U1 := Nat.lt_of_le_of_lt (Nat.add_le_add_left (show 1 ≤ 65 by decide) _) U
    exact ss_one (ss_ret (s_ite (st_cmp (eq_ok U64) (s_bin mod_ok (s_var 0) (s_int)) (s_int)) (s_bin fdiv_ok (s_bin add_ok (s_var 0) (s_int)) (s_int)) (s_bin sub_ok (s_int) (s_bin fdiv_ok (s_var 0) (s_int))))))
abbrev sshare_at : Stmt := topS 33
theorem scshare_at : FnScope ["number", "together", "row"] ["number"] (defScope sshare_at) := ⟨rfl, rfl, rfl, by decide +kernel, rfl, by decide +kernel, by decide +kernel⟩
def bshare_at_t0 : Env → Sto → Res Bool := isB (binF geD (varF 0) (callF lenM (consA (varF 2) (nilA))))
def bshare_at_w1 : Env → Sto → SR := seqF (setF 0 (binF subD (varF 0) (callF lenM (consA (varF 2) (nilA))))) (seqF (setF 1 (binF addD (varF 1) (conF (.int 1)))) (setF 2 (callF fshares_of (consA (varF 1) (nilA)))))
def bshare_at : Env → Sto → SR := seqF (setF 1 (conF (.int 1))) (seqF (setF 2 (callF fshares_of (consA (varF 1) (nilA)))) (seqF (whileF bshare_at_t0 bshare_at_w1) (retF (binF ixD (varF 2) (varF 0)))))
def fshare_at : Fn := fnM 1 2 true bshare_at
theorem okshare_at {P : Program} {w : World} {K : PySem.W.Frag} {M : Lm} {mg : Str → Option Value} {base : Heap} {f : Addr} {fd : FuncData} (N : Kn K mg "share_at" sshare_at ["number"] f fd) (NA : M.arr = false) (B : Bt mg) (D_shares_of : Def P w K M mg base "shares_of" 2 ["together"] fshares_of) : Def P w K M mg base "share_at" 3 ["number"] fshare_at :=
  N.def (FnS.of (k := 2) NA N.fn scshare_at rfl (by decide) fun cdv hcv A outer s H E hr gd W tk hp => by
    have nd := scshare_at.nd
    have U : (A.deeper (envOfC "share_at" (defScope sshare_at) s.heap.objs.size f cdv)).units + 65 < cLine := by
      have := hr.un
      omega
    have U64 := Nat.lt_of_succ_lt U
    have U1 := Nat.lt_of_le_of_lt (Nat.add_le_add_left (show 1 ≤ 65 by decide) _) U
    exact ss_cons (ss_set 1 nd (s_int)) (ss_cons (ss_set 2 nd (s_callD D_shares_of hr gd tk (sa_cons (s_var 1) (sa_nil)))) (ss_cons (ss_while hp (st_cmp ge_ok (s_var 0) (s_callB len_ok (B.b_len) (sa_cons (s_var 2) (sa_nil)) (hv := bb_len))) (ss_cons (ss_set 0 nd (s_bin sub_ok (s_var 0) (s_callB len_ok (B.b_len) (sa_cons (s_var 2) (sa_nil)) (hv := bb_len)))) (ss_cons (ss_set 1 nd (s_bin add_ok (s_var 1) (s_int))) (ss_one (ss_set 2 nd (s_callD D_shares_of hr gd tk (sa_cons (s_var 1) (sa_nil)))))))) (ss_one (ss_ret (s_ix U1 (s_var 2) (s_var 0)))))))
abbrev sroot_at : Stmt := topS 35
theorem scroot_at : FnScope ["number", "most"] ["number"] (defScope sroot_at) := ⟨rfl, rfl, rfl, by decide +kernel, rfl, by decide +kernel, by decide +kernel⟩
def broot_at_t0 : Env → Sto → Res Bool := isB (binF leD (binF mulD (binF addD (varF 1) (conF (.int 1))) (binF addD (varF 1) (conF (.int 1)))) (varF 0))
def broot_at_w1 : Env → Sto → SR := setF 1 (binF addD (varF 1) (conF (.int 1)))
def broot_at_s2 : Env → Sto → SR := seqF (setF 0 (binF subD (varF 0) (binF mulD (varF 1) (varF 1)))) (seqF (ifF (isB (binF ltD (varF 0) (varF 1))) (retF (tupF (consA (callF fshare_at (consA (varF 0) (nilA))) (consA (callF fshare_at (consA (varF 1) (nilA))) (nilA))))) (nopF)) (retF (tupF (consA (callF fshare_at (consA (varF 1) (nilA))) (consA (callF fshare_at (consA (binF subD (varF 0) (varF 1)) (nilA))) (nilA))))))
def broot_at_s3 : Env → Sto → SR := seqF (ifF (isB (binF ltD (varF 0) (varF 1))) (retF (tupF (consA (callF fshare_at (consA (varF 0) (nilA))) (consA (callF fshare_at (consA (varF 1) (nilA))) (nilA))))) (nopF)) (retF (tupF (consA (callF fshare_at (consA (varF 1) (nilA))) (consA (callF fshare_at (consA (binF subD (varF 0) (varF 1)) (nilA))) (nilA)))))
def broot_at : Env → Sto → SR := seqF (setF 1 (conF (.int 0))) (seqF (whileF broot_at_t0 broot_at_w1) (seqF (setF 0 (binF subD (varF 0) (binF mulD (varF 1) (varF 1)))) (seqF (ifF (isB (binF ltD (varF 0) (varF 1))) (retF (tupF (consA (callF fshare_at (consA (varF 0) (nilA))) (consA (callF fshare_at (consA (varF 1) (nilA))) (nilA))))) (nopF)) (retF (tupF (consA (callF fshare_at (consA (varF 1) (nilA))) (consA (callF fshare_at (consA (binF subD (varF 0) (varF 1)) (nilA))) (nilA))))))))
def froot_at : Fn := fnM 1 1 true broot_at
theorem okroot_at {P : Program} {w : World} {K : PySem.W.Frag} {M : Lm} {mg : Str → Option Value} {base : Heap} {f : Addr} {fd : FuncData} (N : Kn K mg "root_at" sroot_at ["number"] f fd) (NA : M.arr = false) (B : Bt mg) (D_share_at : Def P w K M mg base "share_at" 3 ["number"] fshare_at) : Def P w K M mg base "root_at" 4 ["number"] froot_at :=
  N.def (FnS.of (k := 3) NA N.fn scroot_at rfl (by decide) fun cdv hcv A outer s H E hr gd W tk hp => by
    have nd := scroot_at.nd
    have U : (A.deeper (envOfC "root_at" (defScope sroot_at) s.heap.objs.size f cdv)).units + 65 < cLine := by
      have := hr.un
      omega
    have U64 := Nat.lt_of_succ_lt U
    have U1 := Nat.lt_of_le_of_lt (Nat.add_le_add_left (show 1 ≤ 65 by decide) _) U
    exact ss_cons (ss_set 1 nd (s_int)) (ss_cons (ss_while hp (st_cmp le_ok (s_bin mul_ok (s_bin add_ok (s_var 1) (s_int)) (s_bin add_ok (s_var 1) (s_int))) (s_var 0)) (ss_one (ss_set 1 nd (s_bin add_ok (s_var 1) (s_int))))) (ss_cons (ss_set 0 nd (s_bin sub_ok (s_var 0) (s_bin mul_ok (s_var 1) (s_var 1)))) (ss_cons (ss_if (st_cmp lt_ok (s_var 0) (s_var 1)) (ss_one (ss_ret (s_tup (sa_cons (s_callD D_share_at hr gd tk (sa_cons (s_var 0) (sa_nil))) (sa_cons (s_callD D_share_at hr gd tk (sa_cons (s_var 1) (sa_nil))) (sa_nil)))))) (ss_nil)) (ss_one (ss_ret (s_tup (sa_cons (s_callD D_share_at hr gd tk (sa_cons (s_var 1) (sa_nil))) (sa_cons (s_callD D_share_at hr gd tk (sa_cons (s_bin sub_ok (s_var 0) (s_var 1)) (sa_nil))) (sa_nil))))))))))
abbrev sabout_at : Stmt := topS 34
theorem scabout_at : FnScope ["figures", "number", "together", "row"] ["figures", "number"] (defScope sabout_at) := ⟨rfl, rfl, rfl, by decide +kernel, rfl, by decide +kernel, by decide +kernel⟩
def babout_at_t0 : Env → Sto → Res Bool := isB (binF geD (varF 1) (callF lenM (consA (varF 3) (nilA))))
def babout_at_w1 : Env → Sto → SR := seqF (setF 1 (binF subD (varF 1) (callF lenM (consA (varF 3) (nilA))))) (seqF (setF 2 (binF addD (varF 2) (conF (.int 1)))) (setF 3 (callF fabouts_of (consA (varF 0) (consA (varF 2) (nilA))))))
def babout_at : Env → Sto → SR := seqF (setF 2 (conF (.int 0))) (seqF (setF 3 (callF fabouts_of (consA (varF 0) (consA (varF 2) (nilA))))) (seqF (whileF babout_at_t0 babout_at_w1) (retF (binF ixD (varF 3) (varF 1)))))
def fabout_at : Fn := fnM 2 2 true babout_at
theorem okabout_at {P : Program} {w : World} {K : PySem.W.Frag} {M : Lm} {mg : Str → Option Value} {base : Heap} {f : Addr} {fd : FuncData} (N : Kn K mg "about_at" sabout_at ["figures", "number"] f fd) (NA : M.arr = false) (B : Bt mg) (D_abouts_of : Def P w K M mg base "abouts_of" 4 ["figures", "together"] fabouts_of) : Def P w K M mg base "about_at" 5 ["figures", "number"] fabout_at :=
  N.def (FnS.of (k := 4) NA N.fn scabout_at rfl (by decide) fun cdv hcv A outer s H E hr gd W tk hp => by
    have nd := scabout_at.nd
    have U : (A.deeper (envOfC "about_at" (defScope sabout_at) s.heap.objs.size f cdv)).units + 65 < cLine := by
      have := hr.un
      omega
    have U64 := Nat.lt_of_succ_lt U
    have U1 := Nat.lt_of_le_of_lt (Nat.add_le_add_left (show 1 ≤ 65 by decide) _) U
    exact ss_cons (ss_set 2 nd (s_int)) (ss_cons (ss_set 3 nd (s_callD D_abouts_of hr gd tk (sa_cons (s_var 0) (sa_cons (s_var 2) (sa_nil))))) (ss_cons (ss_while hp (st_cmp ge_ok (s_var 1) (s_callB len_ok (B.b_len) (sa_cons (s_var 3) (sa_nil)) (hv := bb_len))) (ss_cons (ss_set 1 nd (s_bin sub_ok (s_var 1) (s_callB len_ok (B.b_len) (sa_cons (s_var 3) (sa_nil)) (hv := bb_len)))) (ss_cons (ss_set 2 nd (s_bin add_ok (s_var 2) (s_int))) (ss_one (ss_set 3 nd (s_callD D_abouts_of hr gd tk (sa_cons (s_var 0) (sa_cons (s_var 2) (sa_nil))))))))) (ss_one (ss_ret (s_ix U1 (s_var 3) (s_var 1)))))))
abbrev sworth_at : Stmt := topS 37
theorem scworth_at : FnScope ["kind", "number", "found"] ["kind", "number"] (defScope sworth_at) := ⟨rfl, rfl, rfl, by decide +kernel, rfl, by decide +kernel, by decide +kernel⟩
def bworth_at_s2 : Env → Sto → SR := seqF (ifF (isB (binF eqD (binF ixD (varF 0) (conF (.int 0))) (conF (.str [119, 104, 111, 108, 101])))) (retF (callF fwhole_at (consA (varF 1) (nilA)))) (nopF)) (seqF (ifF (isB (binF eqD (binF ixD (varF 0) (conF (.int 0))) (conF (.str [115, 104, 97, 114, 101])))) (retF (callF fshare_at (consA (varF 1) (nilA)))) (nopF)) (seqF (ifF (isB (binF eqD (binF ixD (varF 0) (conF (.int 0))) (conF (.str [114, 111, 111, 116])))) (retF (callF froot_at (consA (varF 1) (nilA)))) (nopF)) (seqF (ifF (isB (binF eqD (binF ixD (varF 0) (conF (.int 0))) (conF (.str [97, 98, 111, 117, 116])))) (retF (callF fabout_at (consA (binF ixD (varF 0) (conF (.int 1))) (consA (varF 1) (nilA))))) (nopF)) (seqF (setF 2 (iteF (isB (binF eqD (binF ixD (varF 0) (conF (.int 0))) (conF (.str [115, 117, 114, 101])))) (callF fsure_worths nilA) (rg1F mkL (callF fmany_worths (consA (varF 0) (nilA)))))) (seqF (ifF (isB (binF geD (varF 1) (callF lenM (consA (varF 2) (nilA))))) (raiseF 3) (nopF)) (retF (binF ixD (varF 2) (varF 1))))))))
def bworth_at_s7 : Env → Sto → SR := seqF (ifF (isB (binF geD (varF 1) (callF lenM (consA (varF 2) (nilA))))) (raiseF 3) (nopF)) (retF (binF ixD (varF 2) (varF 1)))
def bworth_at : Env → Sto → SR := seqF (dropF (callF fneed_kind (consA (varF 0) (nilA)))) (seqF (ifF (notT (isB (callF fis_among (consA (varF 1) (consA (conF (.int 0)) (consA (conF cMOST_PLACE) (nilA))))))) (raiseF 3) (nopF)) (seqF (ifF (isB (binF eqD (binF ixD (varF 0) (conF (.int 0))) (conF (.str [119, 104, 111, 108, 101])))) (retF (callF fwhole_at (consA (varF 1) (nilA)))) (nopF)) (seqF (ifF (isB (binF eqD (binF ixD (varF 0) (conF (.int 0))) (conF (.str [115, 104, 97, 114, 101])))) (retF (callF fshare_at (consA (varF 1) (nilA)))) (nopF)) (seqF (ifF (isB (binF eqD (binF ixD (varF 0) (conF (.int 0))) (conF (.str [114, 111, 111, 116])))) (retF (callF froot_at (consA (varF 1) (nilA)))) (nopF)) (seqF (ifF (isB (binF eqD (binF ixD (varF 0) (conF (.int 0))) (conF (.str [97, 98, 111, 117, 116])))) (retF (callF fabout_at (consA (binF ixD (varF 0) (conF (.int 1))) (consA (varF 1) (nilA))))) (nopF)) (seqF (setF 2 (iteF (isB (binF eqD (binF ixD (varF 0) (conF (.int 0))) (conF (.str [115, 117, 114, 101])))) (callF fsure_worths nilA) (rg1F mkL (callF fmany_worths (consA (varF 0) (nilA)))))) (seqF (ifF (isB (binF geD (varF 1) (callF lenM (consA (varF 2) (nilA))))) (raiseF 3) (nopF)) (retF (binF ixD (varF 2) (varF 1))))))))))
def fworth_at : Fn := fnM 2 1 true bworth_at
theorem okworth_at {P : Program} {w : World} {K : PySem.W.Frag} {M : Lm} {mg : Str → Option Value} {base : Heap} {f : Addr} {fd : FuncData} (N : Kn K mg "worth_at" sworth_at ["kind", "number"] f fd) (NA : M.arr = false) (B : Bt mg) (C_MOST_PLACE : Con K mg "MOST_PLACE" cMOST_PLACE) (D_need_kind : Def P w K M mg base "need_kind" 6 ["thing"] fneed_kind) (D_is_among : Def P w K M mg base "is_among" 2 ["thing", "least", "most"] fis_among) (D_whole_at : Def P w K M mg base "whole_at" 1 ["number"] fwhole_at) (D_share_at : Def P w K M mg base "share_at" 3 ["number"] fshare_at) (D_root_at : Def P w K M mg base "root_at" 4 ["number"] froot_at) (D_about_at : Def P w K M mg base "about_at" 5 ["figures", "number"] fabout_at) (D_sure_worths : Def P w K M mg base "sure_worths" 1 [] fsure_worths) (D_many_worths : Def P w K M mg base "many_worths" 8 ["kind"] fmany_worths) (G_BadNumber : mg "BadNumber" = some (.ref (M.cls 3))) (X_BadNumber : XcF K (M.cls 3)) : Def P w K M mg base "worth_at" 9 ["kind", "number"] fworth_at :=
  N.def (FnS.of (k := 8) NA N.fn scworth_at rfl (by decide) fun cdv hcv A outer s H E hr gd W tk hp => by
    have nd := scworth_at.nd
    have U : (A.deeper (envOfC "worth_at" (defScope sworth_at) s.heap.objs.size f cdv)).units + 65 < cLine := by
      have := hr.un
      omega
    have U64 := Nat.lt_of_succ_lt U
    have U1 := Nat.lt_of_le_of_lt (Nat.add_le_add_left (show 1 ≤ 65 by decide) _) U
    exact ss_cons (ss_expr (s_callD D_need_kind hr gd tk (sa_cons (s_var 0) (sa_nil)))) (ss_cons (ss_if (st_not (st_val (s_callD D_is_among hr gd tk (sa_cons (s_var 1) (sa_cons (s_int) (sa_cons (s_con C_MOST_PLACE) (sa_nil))))))) (ss_one (ss_raise 3 rfl tk X_BadNumber G_BadNumber)) (ss_nil)) (ss_cons (ss_if (st_cmp (eq_ok U64) (s_ix U1 (s_var 0) (s_int)) (s_str [119, 104, 111, 108, 101])) (ss_one (ss_ret (s_callD D_whole_at hr gd tk (sa_cons (s_var 1) (sa_nil))))) (ss_nil)) (ss_cons (ss_if (st_cmp (eq_ok U64) (s_ix U1 (s_var 0) (s_int)) (s_str [115, 104, 97, 114, 101])) (ss_one (ss_ret (s_callD D_share_at hr gd tk (sa_cons (s_var 1) (sa_nil))))) (ss_nil)) (ss_cons (ss_if (st_cmp (eq_ok U64) (s_ix U1 (s_var 0) (s_int)) (s_str [114, 111, 111, 116])) (ss_one (ss_ret (s_callD D_root_at hr gd tk (sa_cons (s_var 1) (sa_nil))))) (ss_nil)) (ss_cons (ss_if (st_cmp (eq_ok U64) (s_ix U1 (s_var 0) (s_int)) (s_str [97, 98, 111, 117, 116])) (ss_one (ss_ret (s_callD D_about_at hr gd tk (sa_cons (s_ix U1 (s_var 0) (s_int)) (sa_cons (s_var 1) (sa_nil)))))) (ss_nil)) (ss_cons (ss_set 2 nd (s_ite (st_cmp (eq_ok U64) (s_ix U1 (s_var 0) (s_int)) (s_str [115, 117, 114, 101])) (s_callD0 D_sure_worths hr gd tk) (s_lstR1 rfl (B.b_list) (B.b_range) (s_callD D_many_worths hr gd tk (sa_cons (s_var 0) (sa_nil)))))) (ss_cons (ss_if (st_cmp ge_ok (s_var 1) (s_callB len_ok (B.b_len) (sa_cons (s_var 2) (sa_nil)) (hv := bb_len))) (ss_one (ss_raise 3 rfl tk X_BadNumber G_BadNumber)) (ss_nil)) (ss_one (ss_ret (s_ix U1 (s_var 2) (s_var 1))))))))))))
abbrev sL_measure : Stmt := topS 51
theorem scL_measure : FnScope ["_law_kind", "_law_worth"] ["_law_kind", "_law_worth"] (defScope sL_measure) := ⟨rfl, rfl, rfl, by decide +kernel, rfl, by decide +kernel, by decide +kernel⟩
def bL_measure : Env → Sto → SR := seqF (ifF (isB (binF eqD (binF ixD (varF 0) (conF (.int 0))) (conF (.str [119, 104, 111, 108, 101])))) (retF (callF absM (consA (varF 1) (nilA)))) (nopF)) (seqF (ifF (isB (binF (inD false) (binF ixD (varF 0) (conF (.int 0))) (tupF (consA (conF (.str [115, 104, 97, 114, 101])) (consA (conF (.str [97, 98, 111, 117, 116])) (nilA)))))) (retF (binF addD (callF absM (consA (binF ixD (varF 1) (conF (.int 0))) (nilA))) (callF absM (consA (binF ixD (varF 1) (conF (.int 1))) (nilA))))) (nopF)) (seqF (ifF (isB (binF eqD (binF ixD (varF 0) (conF (.int 0))) (conF (.str [114, 111, 111, 116])))) (retF (callF max2M (consA (callF fplace_of (consA (tupF (consA (conF (.str [115, 104, 97, 114, 101])) (nilA))) (consA (binF ixD (varF 1) (conF (.int 0))) (nilA)))) (consA (callF fplace_of (consA (tupF (consA (conF (.str [115, 104, 97, 114, 101])) (nilA))) (consA (binF ixD (varF 1) (conF (.int 1))) (nilA)))) (nilA))))) (nopF)) (seqF (ifF (isB (binF eqD (binF ixD (varF 0) (conF (.int 0))) (conF (.str [115, 117, 114, 101])))) (retF (binF subD (binF ixD (binF ixD (varF 1) (conF (.int 1))) (conF (.int 0))) (binF ixD (binF ixD (varF 1) (conF (.int 0))) (conF (.int 0))))) (nopF)) (retF (varF 1)))))
def fL_measure : Fn := fnM 2 0 true bL_measure
theorem okL_measure {P : Program} {w : World} {K : PySem.W.Frag} {M : Lm} {mg : Str → Option Value} {base : Heap} {f : Addr} {fd : FuncData} (N : Kn K mg "_law_measure" sL_measure ["_law_kind", "_law_worth"] f fd) (NA : M.arr = false) (B : Bt mg) (D_place_of : Def P w K M mg base "place_of" 12 ["kind", "worth"] fplace_of) : Def P w K M mg base "_law_measure" 13 ["_law_kind", "_law_worth"] fL_measure :=
  N.def (FnS.of (k := 12) NA N.fn scL_measure rfl (by decide) fun cdv hcv A outer s H E hr gd W tk hp => by
    have nd := scL_measure.nd
    have U : (A.deeper (envOfC "_law_measure" (defScope sL_measure) s.heap.objs.size f cdv)).units + 65 < cLine := by
      have := hr.un
      omega
    have U64 := Nat.lt_of_succ_lt U
    have U1 := Nat.lt_of_le_of_lt (Nat.add_le_add_left (show 1 ≤ 65 by decide) _) U
    exact ss_cons (ss_if (st_cmp (eq_ok U64) (s_ix U1 (s_var 0) (s_int)) (s_str [119, 104, 111, 108, 101])) (ss_one (ss_ret (s_callB abs_ok (B.b_abs) (sa_cons (s_var 1) (sa_nil)) (hv := bb_abs)))) (ss_nil)) (ss_cons (ss_if (st_cmp (in_ok U) (s_ix U1 (s_var 0) (s_int)) (s_tup (sa_cons (s_str [115, 104, 97, 114, 101]) (sa_cons (s_str [97, 98, 111, 117, 116]) (sa_nil))))) (ss_one (ss_ret (s_bin add_ok (s_callB abs_ok (B.b_abs) (sa_cons (s_ix U1 (s_var 1) (s_int)) (sa_nil)) (hv := bb_abs)) (s_callB abs_ok (B.b_abs) (sa_cons (s_ix U1 (s_var 1) (s_int)) (sa_nil)) (hv := bb_abs))))) (ss_nil)) (ss_cons (ss_if (st_cmp (eq_ok U64) (s_ix U1 (s_var 0) (s_int)) (s_str [114, 111, 111, 116])) (ss_one (ss_ret (s_callB (max2_ok rfl) (B.b_max) (sa_cons (s_callD D_place_of hr gd tk (sa_cons (s_tup (sa_cons (s_str [115, 104, 97, 114, 101]) (sa_nil))) (sa_cons (s_ix U1 (s_var 1) (s_int)) (sa_nil)))) (sa_cons (s_callD D_place_of hr gd tk (sa_cons (s_tup (sa_cons (s_str [115, 104, 97, 114, 101]) (sa_nil))) (sa_cons (s_ix U1 (s_var 1) (s_int)) (sa_nil)))) (sa_nil))) (hv := bb_max)))) (ss_nil)) (ss_cons (ss_if (st_cmp (eq_ok U64) (s_ix U1 (s_var 0) (s_int)) (s_str [115, 117, 114, 101])) (ss_one (ss_ret (s_bin sub_ok (s_ix U1 (s_ix U1 (s_var 1) (s_int)) (s_int)) (s_ix U1 (s_ix U1 (s_var 1) (s_int)) (s_int))))) (ss_nil)) (ss_one (ss_ret (s_var 1)))))))
abbrev sL_stretch_right : Stmt := topS 52
abbrev nL_stretch_right : List Str := ["_law_kind", "_law_first", "_law_last", "_law_turn", "_law_places", "_law_found", "_law_rows", "_law_place", "_law_worth"]
theorem scL_stretch_right : FnScope ["_law_kind", "_law_first", "_law_last", "_law_turn", "_law_places", "_law_found", "_law_rows", "_law_place", "_law_worth"] ["_law_kind", "_law_first", "_law_last", "_law_turn"] (defScope sL_stretch_right) := ⟨rfl, rfl, rfl, by decide +kernel, rfl, by decide +kernel, by decide +kernel⟩
def bL_stretch_right_e0 : Env → Sto → Res D := callF fworth_at (consA (varF 0) (consA (varF 7) (nilA)))
def bL_stretch_right_e1 : Env → Sto → Res D := binF (isNonD false) (callF fis_worth (consA (varF 0) (consA (varF 8) (nilA)))) (conF (.bl true))
def bL_stretch_right_e2 : Env → Sto → Res D := callF fplace_of (consA (varF 0) (consA (varF 8) (nilA)))
def bL_stretch_right_e3 : Env → Sto → Res D := callF fL_measure (consA (varF 0) (consA (varF 8) (nilA)))
def bL_stretch_right_s1 : Env → Sto → SR := seqF (ifF (isB (binF eqD (varF 3) (conF (.int 1)))) (dropF (mtF0 .list revO (varF 4))) (nopF)) (seqF (setF 5 (lcO [7] (itS (varF 4)) (.one 7) yesF bL_stretch_right_e0)) (seqF (ifF (isB (binF eqD (varF 3) (conF (.int 1)))) (dropF (mtF0 .list revO (varF 5))) (nopF)) (seqF (ifF (notT (isB (callF allM (consA (lcF [8] (itS (varF 5)) (.one 8) yesF bL_stretch_right_e1) (nilA))))) (retF (conF (.bl false))) (nopF)) (seqF (ifF (isB (binF neD (lcF [8] (itS (varF 5)) (.one 8) yesF bL_stretch_right_e2) (rg2F mkL (varF 1) (binF addD (varF 2) (conF (.int 1)))))) (retF (conF (.bl false))) (nopF)) (seqF (setF 6 (lcF [8] (itS (varF 5)) (.one 8) yesF bL_stretch_right_e3)) (retF (andV (binF eqD (varF 6) (callF sortedM (consA (varF 6) (nilA)))) (binF eqD (lenSetF (varF 5)) (callF lenM (consA (varF 5) (nilA)))))))))))
def bL_stretch_right_s2 : Env → Sto → SR := seqF (setF 5 (lcO [7] (itS (varF 4)) (.one 7) yesF bL_stretch_right_e0)) (seqF (ifF (isB (binF eqD (varF 3) (conF (.int 1)))) (dropF (mtF0 .list revO (varF 5))) (nopF)) (seqF (ifF (notT (isB (callF allM (consA (lcF [8] (itS (varF 5)) (.one 8) yesF bL_stretch_right_e1) (nilA))))) (retF (conF (.bl false))) (nopF)) (seqF (ifF (isB (binF neD (lcF [8] (itS (varF 5)) (.one 8) yesF bL_stretch_right_e2) (rg2F mkL (varF 1) (binF addD (varF 2) (conF (.int 1)))))) (retF (conF (.bl false))) (nopF)) (seqF (setF 6 (lcF [8] (itS (varF 5)) (.one 8) yesF bL_stretch_right_e3)) (retF (andV (binF eqD (varF 6) (callF sortedM (consA (varF 6) (nilA)))) (binF eqD (lenSetF (varF 5)) (callF lenM (consA (varF 5) (nilA))))))))))
def bL_stretch_right_s3 : Env → Sto → SR := seqF (ifF (isB (binF eqD (varF 3) (conF (.int 1)))) (dropF (mtF0 .list revO (varF 5))) (nopF)) (seqF (ifF (notT (isB (callF allM (consA (lcF [8] (itS (varF 5)) (.one 8) yesF bL_stretch_right_e1) (nilA))))) (retF (conF (.bl false))) (nopF)) (seqF (ifF (isB (binF neD (lcF [8] (itS (varF 5)) (.one 8) yesF bL_stretch_right_e2) (rg2F mkL (varF 1) (binF addD (varF 2) (conF (.int 1)))))) (retF (conF (.bl false))) (nopF)) (seqF (setF 6 (lcF [8] (itS (varF 5)) (.one 8) yesF bL_stretch_right_e3)) (retF (andV (binF eqD (varF 6) (callF sortedM (consA (varF 6) (nilA)))) (binF eqD (lenSetF (varF 5)) (callF lenM (consA (varF 5) (nilA)))))))))
def bL_stretch_right_s4 : Env → Sto → SR := seqF (ifF (notT (isB (callF allM (consA (lcF [8] (itS (varF 5)) (.one 8) yesF bL_stretch_right_e1) (nilA))))) (retF (conF (.bl false))) (nopF)) (seqF (ifF (isB (binF neD (lcF [8] (itS (varF 5)) (.one 8) yesF bL_stretch_right_e2) (rg2F mkL (varF 1) (binF addD (varF 2) (conF (.int 1)))))) (retF (conF (.bl false))) (nopF)) (seqF (setF 6 (lcF [8] (itS (varF 5)) (.one 8) yesF bL_stretch_right_e3)) (retF (andV (binF eqD (varF 6) (callF sortedM (consA (varF 6) (nilA)))) (binF eqD (lenSetF (varF 5)) (callF lenM (consA (varF 5) (nilA))))))))
def bL_stretch_right_s5 : Env → Sto → SR := seqF (ifF (isB (binF neD (lcF [8] (itS (varF 5)) (.one 8) yesF bL_stretch_right_e2) (rg2F mkL (varF 1) (binF addD (varF 2) (conF (.int 1)))))) (retF (conF (.bl false))) (nopF)) (seqF (setF 6 (lcF [8] (itS (varF 5)) (.one 8) yesF bL_stretch_right_e3)) (retF (andV (binF eqD (varF 6) (callF sortedM (consA (varF 6) (nilA)))) (binF eqD (lenSetF (varF 5)) (callF lenM (consA (varF 5) (nilA)))))))
def bL_stretch_right_s6 : Env → Sto → SR := seqF (setF 6 (lcF [8] (itS (varF 5)) (.one 8) yesF bL_stretch_right_e3)) (retF (andV (binF eqD (varF 6) (callF sortedM (consA (varF 6) (nilA)))) (binF eqD (lenSetF (varF 5)) (callF lenM (consA (varF 5) (nilA))))))
def bL_stretch_right_s7 : Env → Sto → SR := retF (andV (binF eqD (varF 6) (callF sortedM (consA (varF 6) (nilA)))) (binF eqD (lenSetF (varF 5)) (callF lenM (consA (varF 5) (nilA)))))
def bL_stretch_right : Env → Sto → SR := seqF (setF 4 (rg2F mkO (varF 1) (binF addD (varF 2) (conF (.int 1))))) (seqF (ifF (isB (binF eqD (varF 3) (conF (.int 1)))) (dropF (mtF0 .list revO (varF 4))) (nopF)) (seqF (setF 5 (lcO [7] (itS (varF 4)) (.one 7) yesF bL_stretch_right_e0)) (seqF (ifF (isB (binF eqD (varF 3) (conF (.int 1)))) (dropF (mtF0 .list revO (varF 5))) (nopF)) (seqF (ifF (notT (isB (callF allM (consA (lcF [8] (itS (varF 5)) (.one 8) yesF bL_stretch_right_e1) (nilA))))) (retF (conF (.bl false))) (nopF)) (seqF (ifF (isB (binF neD (lcF [8] (itS (varF 5)) (.one 8) yesF bL_stretch_right_e2) (rg2F mkL (varF 1) (binF addD (varF 2) (conF (.int 1)))))) (retF (conF (.bl false))) (nopF)) (seqF (setF 6 (lcF [8] (itS (varF 5)) (.one 8) yesF bL_stretch_right_e3)) (retF (andV (binF eqD (varF 6) (callF sortedM (consA (varF 6) (nilA)))) (binF eqD (lenSetF (varF 5)) (callF lenM (consA (varF 5) (nilA))))))))))))
def fL_stretch_right : Fn := fnM 4 5 true bL_stretch_right
theorem okL_stretch_right {P : Program} {w : World} {K : PySem.W.Frag} {M : Lm} {mg : Str → Option Value} {base : Heap} {f : Addr} {fd : FuncData} (N : Kn K mg "_law_stretch_right" sL_stretch_right ["_law_kind", "_law_first", "_law_last", "_law_turn"] f fd) (NA : M.arr = false) (B : Bt mg) (D_worth_at : Def P w K M mg base "worth_at" 9 ["kind", "number"] fworth_at) (D_is_worth : Def P w K M mg base "is_worth" 10 ["kind", "thing"] fis_worth) (D_place_of : Def P w K M mg base "place_of" 12 ["kind", "worth"] fplace_of) (D_L_measure : Def P w K M mg base "_law_measure" 13 ["_law_kind", "_law_worth"] fL_measure) : Def P w K M mg base "_law_stretch_right" 14 ["_law_kind", "_law_first", "_law_last", "_law_turn"] fL_stretch_right :=
  N.def (FnS.of (k := 13) NA N.fn scL_stretch_right rfl (by decide) fun cdv hcv A outer s H E hr gd W tk hp => by
    have nd := scL_stretch_right.nd
    have U : (A.deeper (envOfC "_law_stretch_right" (defScope sL_stretch_right) s.heap.objs.size f cdv)).units + 65 < cLine := by
      have := hr.un
      omega
    have U64 := Nat.lt_of_succ_lt U
    have U1 := Nat.lt_of_le_of_lt (Nat.add_le_add_left (show 1 ≤ 65 by decide) _) U
    exact ss_cons (ss_set 4 nd (s_lstR2O rfl (B.b_list) (B.b_range) (s_var 1) (s_bin add_ok (s_var 2) (s_int)))) (ss_cons (ss_if (st_cmp (eq_ok U64) (s_var 3) (s_int)) (ss_one (ss_expr (s_mt0 (t := .list) revO_ok (s_var 4) PySem.F.plainAttrs_list PySem.F.slot_list_reverse PySem.F.type_list_reverse))) (ss_nil)) (ss_cons (ss_setLcO 5 [("_law_place", 7)] rfl nd (si_seq (s_var 4)) (blkOk_by (N := nL_stretch_right) (sc := defScope sL_stretch_right) (by decide +kernel)) (sg2_name 7 fun _ => pg_name (i := 7) nd rfl (by first | exact Or.inl rfl | exact Or.inr rfl)) (fun _ => sts_nil) (fun _ => s_callD D_worth_at hr gd takes_W0 (sa_cons (s_var 0) (sa_cons (s_var 7) (sa_nil)))) (sw_true rfl rfl rfl (by decide +kernel))) (ss_cons (ss_if (st_cmp (eq_ok U64) (s_var 3) (s_int)) (ss_one (ss_expr (s_mt0 (t := .list) revO_ok (s_var 5) PySem.F.plainAttrs_list PySem.F.slot_list_reverse PySem.F.type_list_reverse))) (ss_nil)) (ss_cons (ss_if (st_not (st_val (s_callB (all_ok rfl) (B.b_all) (sa_cons (s_lc [("_law_worth", 8)] rfl nd (si_seq (s_var 5)) (blkOk_by (N := nL_stretch_right) (sc := defScope sL_stretch_right) (by decide +kernel)) (sg2_name 8 fun _ => pg_name (i := 8) nd rfl (by first | exact Or.inl rfl | exact Or.inr rfl)) (fun _ => sts_nil) (fun _ => s_cmp is_ok (s_callD D_is_worth hr gd takes_W0 (sa_cons (s_var 0) (sa_cons (s_var 8) (sa_nil)))) (s_bl))) (sa_nil)) (hv := bb_all)))) (ss_one (ss_ret (s_bl))) (ss_nil)) (ss_cons (ss_if (st_cmp (ne_ok U64) (s_lc [("_law_worth", 8)] rfl nd (si_seq (s_var 5)) (blkOk_by (N := nL_stretch_right) (sc := defScope sL_stretch_right) (by decide +kernel)) (sg2_name 8 fun _ => pg_name (i := 8) nd rfl (by first | exact Or.inl rfl | exact Or.inr rfl)) (fun _ => sts_nil) (fun _ => s_callD D_place_of hr gd takes_W0 (sa_cons (s_var 0) (sa_cons (s_var 8) (sa_nil))))) (s_lstR2 rfl (B.b_list) (B.b_range) (s_var 1) (s_bin add_ok (s_var 2) (s_int)))) (ss_one (ss_ret (s_bl))) (ss_nil)) (ss_cons (ss_setLc 6 [("_law_worth", 8)] rfl nd (si_seq (s_var 5)) (blkOk_by (N := nL_stretch_right) (sc := defScope sL_stretch_right) (by decide +kernel)) (sg2_name 8 fun _ => pg_name (i := 8) nd rfl (by first | exact Or.inl rfl | exact Or.inr rfl)) (fun _ => sts_nil) (fun _ => s_callD D_L_measure hr gd takes_W0 (sa_cons (s_var 0) (sa_cons (s_var 8) (sa_nil)))) (sw_true rfl rfl rfl (by decide +kernel))) (ss_one (ss_ret (s_and (s_cmp (eq_ok U64) (s_var 6) (s_callB (sorted_ok rfl) (B.b_sorted) (sa_cons (s_var 6) (sa_nil)) (hv := bb_sorted))) (s_one (s_cmp (eq_ok U64) (s_lenSet rfl U (s_var 5) (B.b_len) (B.b_set)) (s_callB len_ok (B.b_len) (sa_cons (s_var 5) (sa_nil)) (hv := bb_len))))))))))))))
abbrev slaw : Stmt := topS 53
abbrev nlaw : List Str := ["_law_script", "_law_k", "_law_cell", "_law_stream_here", "_law_kind", "_law_last", "_law_most", "_law_first", "_law_worth", "_law_place"]
theorem sclaw : FnScope ["_law_script", "_law_k", "_law_cell", "_law_stream_here", "_law_kind", "_law_last", "_law_most", "_law_first", "_law_worth", "_law_place"] ["_law_script"] (defScope slaw) := ⟨rfl, rfl, rfl, by decide +kernel, rfl, by decide +kernel, by decide +kernel⟩
def blaw_e0 : Env → Sto → Res D := callF fworth_at (consA (varF 4) (consA (varF 9) (nilA)))
def blaw_l1 : Env → Sto → SR := seqF (setF 7 (callF fL_take (consA (varF 3) (consA (binF addD (varF 6) (conF (.int 1))) (nilA))))) (ifF (notT (isB (callF fL_stretch_right (consA (varF 4) (consA (varF 7) (consA (callF min2M (consA (varF 5) (consA (binF addD (varF 7) (conF (.int 5))) (nilA)))) (consA (callF fL_take (consA (varF 3) (consA (conF (.int 2)) (nilA)))) (nilA)))))))) (retF (conF (.bl false))) (nopF))
def blaw_l1_s1 : Env → Sto → SR := ifF (notT (isB (callF fL_stretch_right (consA (varF 4) (consA (varF 7) (consA (callF min2M (consA (varF 5) (consA (binF addD (varF 7) (conF (.int 5))) (nilA)))) (consA (callF fL_take (consA (varF 3) (consA (conF (.int 2)) (nilA)))) (nilA)))))))) (retF (conF (.bl false))) (nopF)
def blaw_l3 : Env → Sto → SR := seqF (setF 3 (callF fL_stream (consA (varF 2) (consA (varF 1) (nilA))))) (seqF (setF 4 (callF fL_kind_by (consA (varF 3) (nilA)))) (seqF (setF 5 (conF (.int 400))) (seqF (ifF (isB (callF fis_finite (consA (varF 4) (nilA)))) (seqF (setF 5 (binF subD (callF fmany_worths (consA (varF 4) (nilA))) (conF (.int 1)))) (ifF (isB (binF neD (lcF [9] (itR1 (consA (binF addD (varF 5) (conF (.int 1))) (nilA))) (.one 9) yesF blaw_e0) (rg1F mkL (binF addD (varF 5) (conF (.int 1)))))) (retF (conF (.bl false))) (nopF))) (nopF)) (seqF (ifF (isB (binF eqD (binF ixD (varF 4) (conF (.int 0))) (conF (.str [115, 117, 114, 101])))) (setF 5 (conF (.int 14))) (nopF)) (seqF (itF (itS (tupF (consA (callF min2M (consA (conF (.int 20)) (consA (varF 5) (nilA)))) (consA (varF 5) (nilA))))) (.one 6) blaw_l1) (seqF (setF 8 (callF fL_small_by (consA (varF 3) (consA (varF 4) (nilA))))) (seqF (setF 9 (callF fplace_of (consA (varF 4) (consA (varF 8) (nilA))))) (ifF (orT (notT (isB (chainF leD leD (conF (.int 0)) (varF 9) (varF 5)))) (isB (binF neD (callF reprM (consA (callF fworth_at (consA (varF 4) (consA (varF 9) (nilA)))) (nilA))) (callF reprM (consA (varF 8) (nilA)))))) (retF (conF (.bl false))) (nopF)))))))))
def blaw_l3_s1 : Env → Sto → SR := seqF (setF 4 (callF fL_kind_by (consA (varF 3) (nilA)))) (seqF (setF 5 (conF (.int 400))) (seqF (ifF (isB (callF fis_finite (consA (varF 4) (nilA)))) (seqF (setF 5 (binF subD (callF fmany_worths (consA (varF 4) (nilA))) (conF (.int 1)))) (ifF (isB (binF neD (lcF [9] (itR1 (consA (binF addD (varF 5) (conF (.int 1))) (nilA))) (.one 9) yesF blaw_e0) (rg1F mkL (binF addD (varF 5) (conF (.int 1)))))) (retF (conF (.bl false))) (nopF))) (nopF)) (seqF (ifF (isB (binF eqD (binF ixD (varF 4) (conF (.int 0))) (conF (.str [115, 117, 114, 101])))) (setF 5 (conF (.int 14))) (nopF)) (seqF (itF (itS (tupF (consA (callF min2M (consA (conF (.int 20)) (consA (varF 5) (nilA)))) (consA (varF 5) (nilA))))) (.one 6) blaw_l1) (seqF (setF 8 (callF fL_small_by (consA (varF 3) (consA (varF 4) (nilA))))) (seqF (setF 9 (callF fplace_of (consA (varF 4) (consA (varF 8) (nilA))))) (ifF (orT (notT (isB (chainF leD leD (conF (.int 0)) (varF 9) (varF 5)))) (isB (binF neD (callF reprM (consA (callF fworth_at (consA (varF 4) (consA (varF 9) (nilA)))) (nilA))) (callF reprM (consA (varF 8) (nilA)))))) (retF (conF (.bl false))) (nopF))))))))
def blaw_l3_s2 : Env → Sto → SR := seqF (setF 5 (conF (.int 400))) (seqF (ifF (isB (callF fis_finite (consA (varF 4) (nilA)))) (seqF (setF 5 (binF subD (callF fmany_worths (consA (varF 4) (nilA))) (conF (.int 1)))) (ifF (isB (binF neD (lcF [9] (itR1 (consA (binF addD (varF 5) (conF (.int 1))) (nilA))) (.one 9) yesF blaw_e0) (rg1F mkL (binF addD (varF 5) (conF (.int 1)))))) (retF (conF (.bl false))) (nopF))) (nopF)) (seqF (ifF (isB (binF eqD (binF ixD (varF 4) (conF (.int 0))) (conF (.str [115, 117, 114, 101])))) (setF 5 (conF (.int 14))) (nopF)) (seqF (itF (itS (tupF (consA (callF min2M (consA (conF (.int 20)) (consA (varF 5) (nilA)))) (consA (varF 5) (nilA))))) (.one 6) blaw_l1) (seqF (setF 8 (callF fL_small_by (consA (varF 3) (consA (varF 4) (nilA))))) (seqF (setF 9 (callF fplace_of (consA (varF 4) (consA (varF 8) (nilA))))) (ifF (orT (notT (isB (chainF leD leD (conF (.int 0)) (varF 9) (varF 5)))) (isB (binF neD (callF reprM (consA (callF fworth_at (consA (varF 4) (consA (varF 9) (nilA)))) (nilA))) (callF reprM (consA (varF 8) (nilA)))))) (retF (conF (.bl false))) (nopF)))))))
def blaw_l3_s3 : Env → Sto → SR := seqF (ifF (isB (callF fis_finite (consA (varF 4) (nilA)))) (seqF (setF 5 (binF subD (callF fmany_worths (consA (varF 4) (nilA))) (conF (.int 1)))) (ifF (isB (binF neD (lcF [9] (itR1 (consA (binF addD (varF 5) (conF (.int 1))) (nilA))) (.one 9) yesF blaw_e0) (rg1F mkL (binF addD (varF 5) (conF (.int 1)))))) (retF (conF (.bl false))) (nopF))) (nopF)) (seqF (ifF (isB (binF eqD (binF ixD (varF 4) (conF (.int 0))) (conF (.str [115, 117, 114, 101])))) (setF 5 (conF (.int 14))) (nopF)) (seqF (itF (itS (tupF (consA (callF min2M (consA (conF (.int 20)) (consA (varF 5) (nilA)))) (consA (varF 5) (nilA))))) (.one 6) blaw_l1) (seqF (setF 8 (callF fL_small_by (consA (varF 3) (consA (varF 4) (nilA))))) (seqF (setF 9 (callF fplace_of (consA (varF 4) (consA (varF 8) (nilA))))) (ifF (orT (notT (isB (chainF leD leD (conF (.int 0)) (varF 9) (varF 5)))) (isB (binF neD (callF reprM (consA (callF fworth_at (consA (varF 4) (consA (varF 9) (nilA)))) (nilA))) (callF reprM (consA (varF 8) (nilA)))))) (retF (conF (.bl false))) (nopF))))))
def blaw_l3_s4 : Env → Sto → SR := seqF (ifF (isB (binF eqD (binF ixD (varF 4) (conF (.int 0))) (conF (.str [115, 117, 114, 101])))) (setF 5 (conF (.int 14))) (nopF)) (seqF (itF (itS (tupF (consA (callF min2M (consA (conF (.int 20)) (consA (varF 5) (nilA)))) (consA (varF 5) (nilA))))) (.one 6) blaw_l1) (seqF (setF 8 (callF fL_small_by (consA (varF 3) (consA (varF 4) (nilA))))) (seqF (setF 9 (callF fplace_of (consA (varF 4) (consA (varF 8) (nilA))))) (ifF (orT (notT (isB (chainF leD leD (conF (.int 0)) (varF 9) (varF 5)))) (isB (binF neD (callF reprM (consA (callF fworth_at (consA (varF 4) (consA (varF 9) (nilA)))) (nilA))) (callF reprM (consA (varF 8) (nilA)))))) (retF (conF (.bl false))) (nopF)))))
def blaw_l3_s5 : Env → Sto → SR := seqF (itF (itS (tupF (consA (callF min2M (consA (conF (.int 20)) (consA (varF 5) (nilA)))) (consA (varF 5) (nilA))))) (.one 6) blaw_l1) (seqF (setF 8 (callF fL_small_by (consA (varF 3) (consA (varF 4) (nilA))))) (seqF (setF 9 (callF fplace_of (consA (varF 4) (consA (varF 8) (nilA))))) (ifF (orT (notT (isB (chainF leD leD (conF (.int 0)) (varF 9) (varF 5)))) (isB (binF neD (callF reprM (consA (callF fworth_at (consA (varF 4) (consA (varF 9) (nilA)))) (nilA))) (callF reprM (consA (varF 8) (nilA)))))) (retF (conF (.bl false))) (nopF))))
def blaw_l3_s6 : Env → Sto → SR := seqF (setF 8 (callF fL_small_by (consA (varF 3) (consA (varF 4) (nilA))))) (seqF (setF 9 (callF fplace_of (consA (varF 4) (consA (varF 8) (nilA))))) (ifF (orT (notT (isB (chainF leD leD (conF (.int 0)) (varF 9) (varF 5)))) (isB (binF neD (callF reprM (consA (callF fworth_at (consA (varF 4) (consA (varF 9) (nilA)))) (nilA))) (callF reprM (consA (varF 8) (nilA)))))) (retF (conF (.bl false))) (nopF)))
def blaw_l3_s7 : Env → Sto → SR := seqF (setF 9 (callF fplace_of (consA (varF 4) (consA (varF 8) (nilA))))) (ifF (orT (notT (isB (chainF leD leD (conF (.int 0)) (varF 9) (varF 5)))) (isB (binF neD (callF reprM (consA (callF fworth_at (consA (varF 4) (consA (varF 9) (nilA)))) (nilA))) (callF reprM (consA (varF 8) (nilA)))))) (retF (conF (.bl false))) (nopF))
def blaw_l3_s8 : Env → Sto → SR := ifF (orT (notT (isB (chainF leD leD (conF (.int 0)) (varF 9) (varF 5)))) (isB (binF neD (callF reprM (consA (callF fworth_at (consA (varF 4) (consA (varF 9) (nilA)))) (nilA))) (callF reprM (consA (varF 8) (nilA)))))) (retF (conF (.bl false))) (nopF)
def blaw_s1 : Env → Sto → SR := retF (conF (.bl true))
def blaw : Env → Sto → SR := seqF (itF (itE (consA (sliceF (binF addD (varF 0) (lstF (consA (conF (.int 0)) (nilA)))) (noPart) (partF (conF (.int 63)))) (nilA))) (.many [.one 1, .one 2]) blaw_l3) (retF (conF (.bl true)))
def flaw : Fn := fnM 1 9 true blaw
theorem okFlaw {P : Program} {w : World} {K : PySem.W.Frag} {M : Lm} {mg : Str → Option Value} {base : Heap} {f : Addr} {fd : FuncData} (N : Kn K mg "law" slaw ["_law_script"] f fd) (NA : M.arr = false) (B : Bt mg) (D_L_stream : Def P w K M mg base "_law_stream" 2 ["_law_cell", "_law_k"] fL_stream) (D_L_kind_by : Def P w K M mg base "_law_kind_by" 4 ["_law_stream_here"] fL_kind_by) (D_is_finite : Def P w K M mg base "is_finite" 7 ["kind"] fis_finite) (D_many_worths : Def P w K M mg base "many_worths" 8 ["kind"] fmany_worths) (D_worth_at : Def P w K M mg base "worth_at" 9 ["kind", "number"] fworth_at) (D_L_take : Def P w K M mg base "_law_take" 2 ["_law_stream_here", "_law_many"] fL_take) (D_L_stretch_right : Def P w K M mg base "_law_stretch_right" 14 ["_law_kind", "_law_first", "_law_last", "_law_turn"] fL_stretch_right) (D_L_small_by : Def P w K M mg base "_law_small_by" 9 ["_law_stream_here", "_law_kind"] fL_small_by) (D_place_of : Def P w K M mg base "place_of" 12 ["kind", "worth"] fplace_of) : FnS P w K M mg base 15 f fd ["_law_script"] flaw :=
  (FnS.of (k := 14) NA N.fn sclaw rfl (by decide) fun cdv hcv A outer s H E hr gd W tk hp => by
    have nd := sclaw.nd
    have U : (A.deeper (envOfC "law" (defScope slaw) s.heap.objs.size f cdv)).units + 65 < cLine := by
      have := hr.un
      omega
    have U64 := Nat.lt_of_succ_lt U
    have U1 := Nat.lt_of_le_of_lt (Nat.add_le_add_left (show 1 ≤ 65 by decide) _) U
    exact ss_cons (ss_for hp rfl (si_enum (sa_cons (s_slice (s_bin add_ok (s_var 0) (s_lst (sa_cons (s_int) (sa_nil)))) (sp_none) (sp_some (s_int))) (sa_nil)) (B.b_enumerate)) (sg_tup rfl (sgs_cons (sg_name 1 nd) (sgs_cons (sg_name 2 nd) (sgs_nil))) 2) (ss_cons (ss_set 3 nd (s_callD D_L_stream hr gd tk (sa_cons (s_var 2) (sa_cons (s_var 1) (sa_nil))))) (ss_cons (ss_set 4 nd (s_callD D_L_kind_by hr gd tk (sa_cons (s_var 3) (sa_nil)))) (ss_cons (ss_set 5 nd (s_int)) (ss_cons (ss_if (st_val (s_callD D_is_finite hr gd tk (sa_cons (s_var 4) (sa_nil)))) (ss_cons (ss_set 5 nd (s_bin sub_ok (s_callD D_many_worths hr gd tk (sa_cons (s_var 4) (sa_nil))) (s_int))) (ss_one (ss_if (st_cmp (ne_ok U64) (s_lc [("_law_place", 9)] rfl nd (si_range1 (sa_cons (s_bin add_ok (s_var 5) (s_int)) (sa_nil)) (B.b_range)) (blkOk_by (N := nlaw) (sc := defScope slaw) (by decide +kernel)) (sg2_name 9 fun _ => pg_name (i := 9) nd rfl (by first | exact Or.inl rfl | exact Or.inr rfl)) (fun _ => sts_nil) (fun _ => s_callD D_worth_at hr gd takes_W0 (sa_cons (s_var 4) (sa_cons (s_var 9) (sa_nil))))) (s_lstR1 rfl (B.b_list) (B.b_range) (s_bin add_ok (s_var 5) (s_int)))) (ss_one (ss_ret (s_bl))) (ss_nil)))) (ss_nil)) (ss_cons (ss_if (st_cmp (eq_ok U64) (s_ix U1 (s_var 4) (s_int)) (s_str [115, 117, 114, 101])) (ss_one (ss_set 5 nd (s_int))) (ss_nil)) (ss_cons (ss_for hp rfl (si_seq (s_tup (sa_cons (s_callB (min2_ok rfl) (B.b_min) (sa_cons (s_int) (sa_cons (s_var 5) (sa_nil))) (hv := bb_min)) (sa_cons (s_var 5) (sa_nil))))) (sg_name 6 nd) (ss_cons (ss_set 7 nd (s_callD D_L_take hr gd tk (sa_cons (s_var 3) (sa_cons (s_bin add_ok (s_var 6) (s_int)) (sa_nil))))) (ss_one (ss_if (st_not (st_val (s_callD D_L_stretch_right hr gd tk (sa_cons (s_var 4) (sa_cons (s_var 7) (sa_cons (s_callB (min2_ok rfl) (B.b_min) (sa_cons (s_var 5) (sa_cons (s_bin add_ok (s_var 7) (s_int)) (sa_nil))) (hv := bb_min)) (sa_cons (s_callD D_L_take hr gd tk (sa_cons (s_var 3) (sa_cons (s_int) (sa_nil)))) (sa_nil)))))))) (ss_one (ss_ret (s_bl))) (ss_nil))))) (ss_cons (ss_set 8 nd (s_callD D_L_small_by hr gd tk (sa_cons (s_var 3) (sa_cons (s_var 4) (sa_nil))))) (ss_cons (ss_set 9 nd (s_callD D_place_of hr gd tk (sa_cons (s_var 4) (sa_cons (s_var 8) (sa_nil))))) (ss_one (ss_if (st_w (sw_or (st_not (st_chain le_ok le_ok (s_int) (s_var 9) (s_var 5))) (sw_or1 (st_cmp (ne_ok U64) (s_callB (repr_ok gd U) (B.b_repr) (sa_cons (s_callD D_worth_at hr gd tk (sa_cons (s_var 4) (sa_cons (s_var 9) (sa_nil)))) (sa_nil)) (hv := bb_repr)) (s_callB (repr_ok gd U) (B.b_repr) (sa_cons (s_var 8) (sa_nil)) (hv := bb_repr)))))) (ss_one (ss_ret (s_bl))) (ss_nil)))))))))))) (ss_one (ss_ret (s_bl))))
theorem all_mk {P : Program} {w : World} {K : PySem.W.Frag} {h : Heap} {mg : Str → Option Value} {fa : Addr} {q0 : Program} (TP : ∃ lo mean mb, Top q0 lo mean mg mb h) (X : K.In h) (G : h.Ns mainGlobals mg) (hfa : mg "law" = some (.ref fa)) {f0 : Addr} {oc0 kV0 dc0 pm0 cv0 ct0 : Value} {od0 an0 : Option Addr} {sl0 : Array (Option Value)} {f1 : Addr} {oc1 kV1 dc1 pm1 cv1 ct1 : Value} {od1 an1 : Option Addr} {sl1 : Array (Option Value)} {f2 : Addr} {oc2 kV2 dc2 pm2 cv2 ct2 : Value} {od2 an2 : Option Addr} {sl2 : Array (Option Value)} {f3 : Addr} {oc3 kV3 dc3 pm3 cv3 ct3 : Value} {od3 an3 : Option Addr} {sl3 : Array (Option Value)} {f4 : Addr} {oc4 kV4 dc4 pm4 cv4 ct4 : Value} {od4 an4 : Option Addr} {sl4 : Array (Option Value)} {f5 : Addr} {oc5 kV5 dc5 pm5 cv5 ct5 : Value} {od5 an5 : Option Addr} {sl5 : Array (Option Value)} {f6 : Addr} {oc6 kV6 dc6 pm6 cv6 ct6 : Value} {od6 an6 : Option Addr} {sl6 : Array (Option Value)} {f7 : Addr} {oc7 kV7 dc7 pm7 cv7 ct7 : Value} {od7 an7 : Option Addr} {sl7 : Array (Option Value)} {f8 : Addr} {oc8 kV8 dc8 pm8 cv8 ct8 : Value} {od8 an8 : Option Addr} {sl8 : Array (Option Value)} {f9 : Addr} {oc9 kV9 dc9 pm9 cv9 ct9 : Value} {od9 an9 : Option Addr} {sl9 : Array (Option Value)} {f10 : Addr} {oc10 kV10 dc10 pm10 cv10 ct10 : Value} {od10 an10 : Option Addr} {sl10 : Array (Option Value)} {f11 : Addr} {oc11 kV11 dc11 pm11 cv11 ct11 : Value} {od11 an11 : Option Addr} {sl11 : Array (Option Value)} {f12 : Addr} {oc12 kV12 dc12 pm12 cv12 ct12 : Value} {od12 an12 : Option Addr} {sl12 : Array (Option Value)} {f13 : Addr} {oc13 kV13 dc13 pm13 cv13 ct13 : Value} {od13 an13 : Option Addr} {sl13 : Array (Option Value)} {f14 : Addr} {oc14 kV14 dc14 pm14 cv14 ct14 : Value} {od14 an14 : Option Addr} {sl14 : Array (Option Value)} {f15 : Addr} {oc15 kV15 dc15 pm15 cv15 ct15 : Value} {od15 an15 : Option Addr} {sl15 : Array (Option Value)} {f16 : Addr} {oc16 kV16 dc16 pm16 cv16 ct16 : Value} {od16 an16 : Option Addr} {sl16 : Array (Option Value)} {f17 : Addr} {oc17 kV17 dc17 pm17 cv17 ct17 : Value} {od17 an17 : Option Addr} {sl17 : Array (Option Value)} {f18 : Addr} {oc18 kV18 dc18 pm18 cv18 ct18 : Value} {od18 an18 : Option Addr} {sl18 : Array (Option Value)} {f19 : Addr} {oc19 kV19 dc19 pm19 cv19 ct19 : Value} {od19 an19 : Option Addr} {sl19 : Array (Option Value)} {f20 : Addr} {oc20 kV20 dc20 pm20 cv20 ct20 : Value} {od20 an20 : Option Addr} {sl20 : Array (Option Value)} {f21 : Addr} {oc21 kV21 dc21 pm21 cv21 ct21 : Value} {od21 an21 : Option Addr} {sl21 : Array (Option Value)} {f22 : Addr} {oc22 kV22 dc22 pm22 cv22 ct22 : Value} {od22 an22 : Option Addr} {sl22 : Array (Option Value)} {f23 : Addr} {oc23 kV23 dc23 pm23 cv23 ct23 : Value} {od23 an23 : Option Addr} {sl23 : Array (Option Value)} {f24 : Addr} {oc24 kV24 dc24 pm24 cv24 ct24 : Value} {od24 an24 : Option Addr} {sl24 : Array (Option Value)} {f25 : Addr} {oc25 kV25 dc25 pm25 cv25 ct25 : Value} {od25 an25 : Option Addr} {sl25 : Array (Option Value)} {f26 : Addr} {oc26 kV26 dc26 pm26 cv26 ct26 : Value} {od26 an26 : Option Addr} {sl26 : Array (Option Value)} {f27 : Addr} {oc27 kV27 dc27 pm27 cv27 ct27 : Value} {od27 an27 : Option Addr} {sl27 : Array (Option Value)} {f28 : Addr} {oc28 kV28 dc28 pm28 cv28 ct28 : Value} {od28 an28 : Option Addr} {sl28 : Array (Option Value)} {f29 : Addr} {oc29 kV29 dc29 pm29 cv29 ct29 : Value} {od29 an29 : Option Addr} {sl29 : Array (Option Value)} {f30 : Addr} {oc30 kV30 dc30 pm30 cv30 ct30 : Value} {od30 an30 : Option Addr} {sl30 : Array (Option Value)} {f31 : Addr} {oc31 kV31 dc31 pm31 cv31 ct31 : Value} {od31 an31 : Option Addr} {sl31 : Array (Option Value)} {f32 : Addr} {oc32 kV32 dc32 pm32 cv32 ct32 : Value} {od32 an32 : Option Addr} {sl32 : Array (Option Value)} {f33 : Addr} {oc33 kV33 dc33 pm33 cv33 ct33 : Value} {od33 an33 : Option Addr} {sl33 : Array (Option Value)} {f34 : Addr} {oc34 kV34 dc34 pm34 cv34 ct34 : Value} {od34 an34 : Option Addr} {sl34 : Array (Option Value)} {f35 : Addr} {oc35 kV35 dc35 pm35 cv35 ct35 : Value} {od35 an35 : Option Addr} {sl35 : Array (Option Value)} {f36 : Addr} {oc36 kV36 dc36 pm36 cv36 ct36 : Value} {od36 an36 : Option Addr} {sl36 : Array (Option Value)} {f37 : Addr} {oc37 kV37 dc37 pm37 cv37 ct37 : Value} {od37 an37 : Option Addr} {sl37 : Array (Option Value)} {u_SQUARES : Value} {u_MOST_POWER : Value} {u_FARTHEST : Value} {u_MOST_PLACE : Value} {u_WIDEST : Value} {da_SIZES : Addr} {de_SIZES : Array DictEntry} {dn_SIZES : Nat} {C0 : Addr} {cd0 : ClassData} {C1 : Addr} {cd1 : ClassData} {C2 : Addr} {cd2 : ClassData} {C3 : Addr} {cd3 : ClassData}
    (a0 : PySem.W.nsIn K mainGlobals "_law_mixed" = some (some (.ref f0))) (l0 : K.lookup f0 = some ⟨oc0, od0, .func (PySem.W.fnOf "_law_mixed" "_law_mixed" (defArgs sL_mixed) (defBody sL_mixed) (defScope sL_mixed) .none kV0 dc0 pm0 an0 cv0 ct0), sl0⟩) (c0 : PySem.W.codeIn K cv0 "_law_mixed" = true) (k0 : PySem.W.keepIn K (.ref f0) = true)
    (a1 : PySem.W.nsIn K mainGlobals "_law_stream" = some (some (.ref f1))) (l1 : K.lookup f1 = some ⟨oc1, od1, .func (PySem.W.fnOf "_law_stream" "_law_stream" (defArgs sL_stream) (defBody sL_stream) (defScope sL_stream) .none kV1 dc1 pm1 an1 cv1 ct1), sl1⟩) (c1 : PySem.W.codeIn K cv1 "_law_stream" = true) (k1 : PySem.W.keepIn K (.ref f1) = true)
    (a2 : PySem.W.nsIn K mainGlobals "_law_take" = some (some (.ref f2))) (l2 : K.lookup f2 = some ⟨oc2, od2, .func (PySem.W.fnOf "_law_take" "_law_take" (defArgs sL_take) (defBody sL_take) (defScope sL_take) .none kV2 dc2 pm2 an2 cv2 ct2), sl2⟩) (c2 : PySem.W.codeIn K cv2 "_law_take" = true) (k2 : PySem.W.keepIn K (.ref f2) = true)
    (a3 : PySem.W.nsIn K mainGlobals "_law_table_by" = some (some (.ref f3))) (l3 : K.lookup f3 = some ⟨oc3, od3, .func (PySem.W.fnOf "_law_table_by" "_law_table_by" (defArgs sL_table_by) (defBody sL_table_by) (defScope sL_table_by) .none kV3 dc3 pm3 an3 cv3 ct3), sl3⟩) (c3 : PySem.W.codeIn K cv3 "_law_table_by" = true) (k3 : PySem.W.keepIn K (.ref f3) = true)
    (a4 : PySem.W.nsIn K mainGlobals "_law_kind_by" = some (some (.ref f4))) (l4 : K.lookup f4 = some ⟨oc4, od4, .func (PySem.W.fnOf "_law_kind_by" "_law_kind_by" (defArgs sL_kind_by) (defBody sL_kind_by) (defScope sL_kind_by) .none kV4 dc4 pm4 an4 cv4 ct4), sl4⟩) (c4 : PySem.W.codeIn K cv4 "_law_kind_by" = true) (k4 : PySem.W.keepIn K (.ref f4) = true)
    (a5 : PySem.W.nsIn K mainGlobals "is_whole" = some (some (.ref f5))) (l5 : K.lookup f5 = some ⟨oc5, od5, .func (PySem.W.fnOf "is_whole" "is_whole" (defArgs sis_whole) (defBody sis_whole) (defScope sis_whole) .none kV5 dc5 pm5 an5 cv5 ct5), sl5⟩) (c5 : PySem.W.codeIn K cv5 "is_whole" = true) (k5 : PySem.W.keepIn K (.ref f5) = true)
    (a6 : PySem.W.nsIn K mainGlobals "is_among" = some (some (.ref f6))) (l6 : K.lookup f6 = some ⟨oc6, od6, .func (PySem.W.fnOf "is_among" "is_among" (defArgs sis_among) (defBody sis_among) (defScope sis_among) .none kV6 dc6 pm6 an6 cv6 ct6), sl6⟩) (c6 : PySem.W.codeIn K cv6 "is_among" = true) (k6 : PySem.W.keepIn K (.ref f6) = true)
    (a7 : PySem.W.nsIn K mainGlobals "is_table" = some (some (.ref f7))) (l7 : K.lookup f7 = some ⟨oc7, od7, .func (PySem.W.fnOf "is_table" "is_table" (defArgs sis_table) (defBody sis_table) (defScope sis_table) .none kV7 dc7 pm7 an7 cv7 ct7), sl7⟩) (c7 : PySem.W.codeIn K cv7 "is_table" = true) (k7 : PySem.W.keepIn K (.ref f7) = true)
    (a8 : PySem.W.nsIn K mainGlobals "is_own" = some (some (.ref f8))) (l8 : K.lookup f8 = some ⟨oc8, od8, .func (PySem.W.fnOf "is_own" "is_own" (defArgs sis_own) (defBody sis_own) (defScope sis_own) .none kV8 dc8 pm8 an8 cv8 ct8), sl8⟩) (c8 : PySem.W.codeIn K cv8 "is_own" = true) (k8 : PySem.W.keepIn K (.ref f8) = true)
    (a9 : PySem.W.nsIn K mainGlobals "is_kind" = some (some (.ref f9))) (l9 : K.lookup f9 = some ⟨oc9, od9, .func (PySem.W.fnOf "is_kind" "is_kind" (defArgs sis_kind) (defBody sis_kind) (defScope sis_kind) .none kV9 dc9 pm9 an9 cv9 ct9), sl9⟩) (c9 : PySem.W.codeIn K cv9 "is_kind" = true) (k9 : PySem.W.keepIn K (.ref f9) = true)
    (a10 : PySem.W.nsIn K mainGlobals "need_kind" = some (some (.ref f10))) (l10 : K.lookup f10 = some ⟨oc10, od10, .func (PySem.W.fnOf "need_kind" "need_kind" (defArgs sneed_kind) (defBody sneed_kind) (defScope sneed_kind) .none kV10 dc10 pm10 an10 cv10 ct10), sl10⟩) (c10 : PySem.W.codeIn K cv10 "need_kind" = true) (k10 : PySem.W.keepIn K (.ref f10) = true)
    (a11 : PySem.W.nsIn K mainGlobals "is_finite" = some (some (.ref f11))) (l11 : K.lookup f11 = some ⟨oc11, od11, .func (PySem.W.fnOf "is_finite" "is_finite" (defArgs sis_finite) (defBody sis_finite) (defScope sis_finite) .none kV11 dc11 pm11 an11 cv11 ct11), sl11⟩) (c11 : PySem.W.codeIn K cv11 "is_finite" = true) (k11 : PySem.W.keepIn K (.ref f11) = true)
    (a12 : PySem.W.nsIn K mainGlobals "_law_part" = some (some (.ref f12))) (l12 : K.lookup f12 = some ⟨oc12, od12, .func (PySem.W.fnOf "_law_part" "_law_part" (defArgs sL_part) (defBody sL_part) (defScope sL_part) .none kV12 dc12 pm12 an12 cv12 ct12), sl12⟩) (c12 : PySem.W.codeIn K cv12 "_law_part" = true) (k12 : PySem.W.keepIn K (.ref f12) = true)
    (a13 : PySem.W.nsIn K mainGlobals "_law_lowest" = some (some (.ref f13))) (l13 : K.lookup f13 = some ⟨oc13, od13, .func (PySem.W.fnOf "_law_lowest" "_law_lowest" (defArgs sL_lowest) (defBody sL_lowest) (defScope sL_lowest) .none kV13 dc13 pm13 an13 cv13 ct13), sl13⟩) (c13 : PySem.W.codeIn K cv13 "_law_lowest" = true) (k13 : PySem.W.keepIn K (.ref f13) = true)
    (a14 : PySem.W.nsIn K mainGlobals "many_worths" = some (some (.ref f14))) (l14 : K.lookup f14 = some ⟨oc14, od14, .func (PySem.W.fnOf "many_worths" "many_worths" (defArgs smany_worths) (defBody smany_worths) (defScope smany_worths) .none kV14 dc14 pm14 an14 cv14 ct14), sl14⟩) (c14 : PySem.W.codeIn K cv14 "many_worths" = true) (k14 : PySem.W.keepIn K (.ref f14) = true)
    (a15 : PySem.W.nsIn K mainGlobals "_law_small_by" = some (some (.ref f15))) (l15 : K.lookup f15 = some ⟨oc15, od15, .func (PySem.W.fnOf "_law_small_by" "_law_small_by" (defArgs sL_small_by) (defBody sL_small_by) (defScope sL_small_by) .none kV15 dc15 pm15 an15 cv15 ct15), sl15⟩) (c15 : PySem.W.codeIn K cv15 "_law_small_by" = true) (k15 : PySem.W.keepIn K (.ref f15) = true)
    (a16 : PySem.W.nsIn K mainGlobals "common_part" = some (some (.ref f16))) (l16 : K.lookup f16 = some ⟨oc16, od16, .func (PySem.W.fnOf "common_part" "common_part" (defArgs scommon_part) (defBody scommon_part) (defScope scommon_part) .none kV16 dc16 pm16 an16 cv16 ct16), sl16⟩) (c16 : PySem.W.codeIn K cv16 "common_part" = true) (k16 : PySem.W.keepIn K (.ref f16) = true)
    (a17 : PySem.W.nsIn K mainGlobals "is_fraction" = some (some (.ref f17))) (l17 : K.lookup f17 = some ⟨oc17, od17, .func (PySem.W.fnOf "is_fraction" "is_fraction" (defArgs sis_fraction) (defBody sis_fraction) (defScope sis_fraction) .none kV17 dc17 pm17 an17 cv17 ct17), sl17⟩) (c17 : PySem.W.codeIn K cv17 "is_fraction" = true) (k17 : PySem.W.keepIn K (.ref f17) = true)
    (a18 : PySem.W.nsIn K mainGlobals "is_about" = some (some (.ref f18))) (l18 : K.lookup f18 = some ⟨oc18, od18, .func (PySem.W.fnOf "is_about" "is_about" (defArgs sis_about) (defBody sis_about) (defScope sis_about) .none kV18 dc18 pm18 an18 cv18 ct18), sl18⟩) (c18 : PySem.W.codeIn K cv18 "is_about" = true) (k18 : PySem.W.keepIn K (.ref f18) = true)
    (a19 : PySem.W.nsIn K mainGlobals "is_less" = some (some (.ref f19))) (l19 : K.lookup f19 = some ⟨oc19, od19, .func (PySem.W.fnOf "is_less" "is_less" (defArgs sis_less) (defBody sis_less) (defScope sis_less) .none kV19 dc19 pm19 an19 cv19 ct19), sl19⟩) (c19 : PySem.W.codeIn K cv19 "is_less" = true) (k19 : PySem.W.keepIn K (.ref f19) = true)
    (a20 : PySem.W.nsIn K mainGlobals "is_of" = some (some (.ref f20))) (l20 : K.lookup f20 = some ⟨oc20, od20, .func (PySem.W.fnOf "is_of" "is_of" (defArgs sis_of) (defBody sis_of) (defScope sis_of) .none kV20 dc20 pm20 an20 cv20 ct20), sl20⟩) (c20 : PySem.W.codeIn K cv20 "is_of" = true) (k20 : PySem.W.keepIn K (.ref f20) = true)
    (a21 : PySem.W.nsIn K mainGlobals "is_worth" = some (some (.ref f21))) (l21 : K.lookup f21 = some ⟨oc21, od21, .func (PySem.W.fnOf "is_worth" "is_worth" (defArgs sis_worth) (defBody sis_worth) (defScope sis_worth) .none kV21 dc21 pm21 an21 cv21 ct21), sl21⟩) (c21 : PySem.W.codeIn K cv21 "is_worth" = true) (k21 : PySem.W.keepIn K (.ref f21) = true)
    (a22 : PySem.W.nsIn K mainGlobals "need_worth" = some (some (.ref f22))) (l22 : K.lookup f22 = some ⟨oc22, od22, .func (PySem.W.fnOf "need_worth" "need_worth" (defArgs sneed_worth) (defBody sneed_worth) (defScope sneed_worth) .none kV22 dc22 pm22 an22 cv22 ct22), sl22⟩) (c22 : PySem.W.codeIn K cv22 "need_worth" = true) (k22 : PySem.W.keepIn K (.ref f22) = true)
    (a23 : PySem.W.nsIn K mainGlobals "shares_of" = some (some (.ref f23))) (l23 : K.lookup f23 = some ⟨oc23, od23, .func (PySem.W.fnOf "shares_of" "shares_of" (defArgs sshares_of) (defBody sshares_of) (defScope sshares_of) .none kV23 dc23 pm23 an23 cv23 ct23), sl23⟩) (c23 : PySem.W.codeIn K cv23 "shares_of" = true) (k23 : PySem.W.keepIn K (.ref f23) = true)
    (a24 : PySem.W.nsIn K mainGlobals "share_place" = some (some (.ref f24))) (l24 : K.lookup f24 = some ⟨oc24, od24, .func (PySem.W.fnOf "share_place" "share_place" (defArgs sshare_place) (defBody sshare_place) (defScope sshare_place) .none kV24 dc24 pm24 an24 cv24 ct24), sl24⟩) (c24 : PySem.W.codeIn K cv24 "share_place" = true) (k24 : PySem.W.keepIn K (.ref f24) = true)
    (a25 : PySem.W.nsIn K mainGlobals "root_place" = some (some (.ref f25))) (l25 : K.lookup f25 = some ⟨oc25, od25, .func (PySem.W.fnOf "root_place" "root_place" (defArgs sroot_place) (defBody sroot_place) (defScope sroot_place) .none kV25 dc25 pm25 an25 cv25 ct25), sl25⟩) (c25 : PySem.W.codeIn K cv25 "root_place" = true) (k25 : PySem.W.keepIn K (.ref f25) = true)
    (a26 : PySem.W.nsIn K mainGlobals "abouts_of" = some (some (.ref f26))) (l26 : K.lookup f26 = some ⟨oc26, od26, .func (PySem.W.fnOf "abouts_of" "abouts_of" (defArgs sabouts_of) (defBody sabouts_of) (defScope sabouts_of) .none kV26 dc26 pm26 an26 cv26 ct26), sl26⟩) (c26 : PySem.W.codeIn K cv26 "abouts_of" = true) (k26 : PySem.W.keepIn K (.ref f26) = true)
    (a27 : PySem.W.nsIn K mainGlobals "about_place" = some (some (.ref f27))) (l27 : K.lookup f27 = some ⟨oc27, od27, .func (PySem.W.fnOf "about_place" "about_place" (defArgs sabout_place) (defBody sabout_place) (defScope sabout_place) .none kV27 dc27 pm27 an27 cv27 ct27), sl27⟩) (c27 : PySem.W.codeIn K cv27 "about_place" = true) (k27 : PySem.W.keepIn K (.ref f27) = true)
    (a28 : PySem.W.nsIn K mainGlobals "sure_worths" = some (some (.ref f28))) (l28 : K.lookup f28 = some ⟨oc28, od28, .func (PySem.W.fnOf "sure_worths" "sure_worths" (defArgs ssure_worths) (defBody ssure_worths) (defScope ssure_worths) .none kV28 dc28 pm28 an28 cv28 ct28), sl28⟩) (c28 : PySem.W.codeIn K cv28 "sure_worths" = true) (k28 : PySem.W.keepIn K (.ref f28) = true)
    (a29 : PySem.W.nsIn K mainGlobals "place_of" = some (some (.ref f29))) (l29 : K.lookup f29 = some ⟨oc29, od29, .func (PySem.W.fnOf "place_of" "place_of" (defArgs splace_of) (defBody splace_of) (defScope splace_of) .none kV29 dc29 pm29 an29 cv29 ct29), sl29⟩) (c29 : PySem.W.codeIn K cv29 "place_of" = true) (k29 : PySem.W.keepIn K (.ref f29) = true)
    (a30 : PySem.W.nsIn K mainGlobals "whole_at" = some (some (.ref f30))) (l30 : K.lookup f30 = some ⟨oc30, od30, .func (PySem.W.fnOf "whole_at" "whole_at" (defArgs swhole_at) (defBody swhole_at) (defScope swhole_at) .none kV30 dc30 pm30 an30 cv30 ct30), sl30⟩) (c30 : PySem.W.codeIn K cv30 "whole_at" = true) (k30 : PySem.W.keepIn K (.ref f30) = true)
    (a31 : PySem.W.nsIn K mainGlobals "share_at" = some (some (.ref f31))) (l31 : K.lookup f31 = some ⟨oc31, od31, .func (PySem.W.fnOf "share_at" "share_at" (defArgs sshare_at) (defBody sshare_at) (defScope sshare_at) .none kV31 dc31 pm31 an31 cv31 ct31), sl31⟩) (c31 : PySem.W.codeIn K cv31 "share_at" = true) (k31 : PySem.W.keepIn K (.ref f31) = true)
    (a32 : PySem.W.nsIn K mainGlobals "root_at" = some (some (.ref f32))) (l32 : K.lookup f32 = some ⟨oc32, od32, .func (PySem.W.fnOf "root_at" "root_at" (defArgs sroot_at) (defBody sroot_at) (defScope sroot_at) .none kV32 dc32 pm32 an32 cv32 ct32), sl32⟩) (c32 : PySem.W.codeIn K cv32 "root_at" = true) (k32 : PySem.W.keepIn K (.ref f32) = true)
    (a33 : PySem.W.nsIn K mainGlobals "about_at" = some (some (.ref f33))) (l33 : K.lookup f33 = some ⟨oc33, od33, .func (PySem.W.fnOf "about_at" "about_at" (defArgs sabout_at) (defBody sabout_at) (defScope sabout_at) .none kV33 dc33 pm33 an33 cv33 ct33), sl33⟩) (c33 : PySem.W.codeIn K cv33 "about_at" = true) (k33 : PySem.W.keepIn K (.ref f33) = true)
    (a34 : PySem.W.nsIn K mainGlobals "worth_at" = some (some (.ref f34))) (l34 : K.lookup f34 = some ⟨oc34, od34, .func (PySem.W.fnOf "worth_at" "worth_at" (defArgs sworth_at) (defBody sworth_at) (defScope sworth_at) .none kV34 dc34 pm34 an34 cv34 ct34), sl34⟩) (c34 : PySem.W.codeIn K cv34 "worth_at" = true) (k34 : PySem.W.keepIn K (.ref f34) = true)
    (a35 : PySem.W.nsIn K mainGlobals "_law_measure" = some (some (.ref f35))) (l35 : K.lookup f35 = some ⟨oc35, od35, .func (PySem.W.fnOf "_law_measure" "_law_measure" (defArgs sL_measure) (defBody sL_measure) (defScope sL_measure) .none kV35 dc35 pm35 an35 cv35 ct35), sl35⟩) (c35 : PySem.W.codeIn K cv35 "_law_measure" = true) (k35 : PySem.W.keepIn K (.ref f35) = true)
    (a36 : PySem.W.nsIn K mainGlobals "_law_stretch_right" = some (some (.ref f36))) (l36 : K.lookup f36 = some ⟨oc36, od36, .func (PySem.W.fnOf "_law_stretch_right" "_law_stretch_right" (defArgs sL_stretch_right) (defBody sL_stretch_right) (defScope sL_stretch_right) .none kV36 dc36 pm36 an36 cv36 ct36), sl36⟩) (c36 : PySem.W.codeIn K cv36 "_law_stretch_right" = true) (k36 : PySem.W.keepIn K (.ref f36) = true)
    (a37 : PySem.W.nsIn K mainGlobals "law" = some (some (.ref f37))) (l37 : K.lookup f37 = some ⟨oc37, od37, .func (PySem.W.fnOf "law" "law" (defArgs slaw) (defBody slaw) (defScope slaw) .none kV37 dc37 pm37 an37 cv37 ct37), sl37⟩) (c37 : PySem.W.codeIn K cv37 "law" = true) (k37 : PySem.W.keepIn K (.ref f37) = true)
    (z_abs : PySem.W.nsIn K mainGlobals "abs" = some none)
    (z_all : PySem.W.nsIn K mainGlobals "all" = some none)
    (z_bool : PySem.W.nsIn K mainGlobals "bool" = some none)
    (z_enumerate : PySem.W.nsIn K mainGlobals "enumerate" = some none)
    (z_int : PySem.W.nsIn K mainGlobals "int" = some none)
    (z_isinstance : PySem.W.nsIn K mainGlobals "isinstance" = some none)
    (z_len : PySem.W.nsIn K mainGlobals "len" = some none)
    (z_list : PySem.W.nsIn K mainGlobals "list" = some none)
    (z_max : PySem.W.nsIn K mainGlobals "max" = some none)
    (z_min : PySem.W.nsIn K mainGlobals "min" = some none)
    (z_range : PySem.W.nsIn K mainGlobals "range" = some none)
    (z_repr : PySem.W.nsIn K mainGlobals "repr" = some none)
    (z_set : PySem.W.nsIn K mainGlobals "set" = some none)
    (z_sorted : PySem.W.nsIn K mainGlobals "sorted" = some none)
    (z_str : PySem.W.nsIn K mainGlobals "str" = some none)
    (z_sum : PySem.W.nsIn K mainGlobals "sum" = some none)
    (z_tuple : PySem.W.nsIn K mainGlobals "tuple" = some none)
    (g_SQUARES : PySem.W.nsIn K mainGlobals "SQUARES" = some (some u_SQUARES)) (e_SQUARES : kcB K cSQUARES u_SQUARES = true)
    (g_MOST_POWER : PySem.W.nsIn K mainGlobals "MOST_POWER" = some (some u_MOST_POWER)) (e_MOST_POWER : kcB K cMOST_POWER u_MOST_POWER = true)
    (g_FARTHEST : PySem.W.nsIn K mainGlobals "FARTHEST" = some (some u_FARTHEST)) (e_FARTHEST : kcB K cFARTHEST u_FARTHEST = true)
    (g_MOST_PLACE : PySem.W.nsIn K mainGlobals "MOST_PLACE" = some (some u_MOST_PLACE)) (e_MOST_PLACE : kcB K cMOST_PLACE u_MOST_PLACE = true)
    (g_WIDEST : PySem.W.nsIn K mainGlobals "WIDEST" = some (some u_WIDEST)) (e_WIDEST : kcB K cWIDEST u_WIDEST = true)
    (g_SIZES : PySem.W.nsIn K mainGlobals "SIZES" = some (some (.ref da_SIZES))) (dl_SIZES : K.lookup da_SIZES = some ⟨.type "dict", none, .dict de_SIZES dn_SIZES, #[]⟩) (dk_SIZES : PySem.W.KeysLit w.params de_SIZES.toList) (dw_SIZES : (da_SIZES == sysModules) = false) (dd_SIZES : KdE K de_SIZES.toList mSIZES)
    (gc0 : PySem.W.nsIn K mainGlobals "TowerError" = some (some (.ref C0))) (lc0 : PySem.W.clsIn K C0 = some cd0) (tc0 : PySem.W.typeIn K (.ref C0) = some (.type "type")) (nc0 : cd0.mro.isEmpty = false) (bc0 : cd0.mro.contains (.type "BaseException") = true)
    (gc1 : PySem.W.nsIn K mainGlobals "BadKind" = some (some (.ref C1))) (lc1 : PySem.W.clsIn K C1 = some cd1) (tc1 : PySem.W.typeIn K (.ref C1) = some (.type "type")) (nc1 : cd1.mro.isEmpty = false) (bc1 : cd1.mro.contains (.type "BaseException") = true)
    (gc2 : PySem.W.nsIn K mainGlobals "BadWorth" = some (some (.ref C2))) (lc2 : PySem.W.clsIn K C2 = some cd2) (tc2 : PySem.W.typeIn K (.ref C2) = some (.type "type")) (nc2 : cd2.mro.isEmpty = false) (bc2 : cd2.mro.contains (.type "BaseException") = true)
    (gc3 : PySem.W.nsIn K mainGlobals "BadNumber" = some (some (.ref C3))) (lc3 : PySem.W.clsIn K C3 = some cd3) (tc3 : PySem.W.typeIn K (.ref C3) = some (.type "type")) (nc3 : cd3.mro.isEmpty = false) (bc3 : cd3.mro.contains (.type "BaseException") = true)
    (xe1 : PySem.W.excIn K C1 [.type "ValueError", .type "Exception", .type "BaseException", .type "object"] "ValueError.__new__" = true) (xk1 : PySem.W.keepIn K (.ref C1) = true)
    (xs1 : PySem.W.subIn K (.ref C1) (.type "BaseException") = some true)
    (xg1 : PySem.W.findIn K (.ref C1) "__getattribute__" = some (some (.builtin "BaseException.__getattribute__"))) (xa1 : PySem.W.findIn K (.ref C1) "__getattr__" = some none) (xd1 : PySem.W.hasDictIn K C1 = true) (xc1 : PySem.W.findIn K (.ref C1) "__class__" = some (some (.builtin "object.__class__"))) (xm1 : PySem.W.mroIn K C1 (.type "object") = some true)
    (xv1 : cd1.mro.contains (.type "ValueError") = true) (xo1 : cd1.mro.contains (.ref C1) = true) (xr1 : ([C0, C1, C2, C3] : List Addr).map (fun D => cd1.mro.contains (.ref D)) = [true, true, false, false])
    (xe2 : PySem.W.excIn K C2 [.type "ValueError", .type "Exception", .type "BaseException", .type "object"] "ValueError.__new__" = true) (xk2 : PySem.W.keepIn K (.ref C2) = true)
    (xs2 : PySem.W.subIn K (.ref C2) (.type "BaseException") = some true)
    (xg2 : PySem.W.findIn K (.ref C2) "__getattribute__" = some (some (.builtin "BaseException.__getattribute__"))) (xa2 : PySem.W.findIn K (.ref C2) "__getattr__" = some none) (xd2 : PySem.W.hasDictIn K C2 = true) (xc2 : PySem.W.findIn K (.ref C2) "__class__" = some (some (.builtin "object.__class__"))) (xm2 : PySem.W.mroIn K C2 (.type "object") = some true)
    (xv2 : cd2.mro.contains (.type "ValueError") = true) (xo2 : cd2.mro.contains (.ref C2) = true) (xr2 : ([C0, C1, C2, C3] : List Addr).map (fun D => cd2.mro.contains (.ref D)) = [true, false, true, false])
    (xe3 : PySem.W.excIn K C3 [.type "ValueError", .type "Exception", .type "BaseException", .type "object"] "ValueError.__new__" = true) (xk3 : PySem.W.keepIn K (.ref C3) = true)
    (xs3 : PySem.W.subIn K (.ref C3) (.type "BaseException") = some true)
    (xg3 : PySem.W.findIn K (.ref C3) "__getattribute__" = some (some (.builtin "BaseException.__getattribute__"))) (xa3 : PySem.W.findIn K (.ref C3) "__getattr__" = some none) (xd3 : PySem.W.hasDictIn K C3 = true) (xc3 : PySem.W.findIn K (.ref C3) "__class__" = some (some (.builtin "object.__class__"))) (xm3 : PySem.W.mroIn K C3 (.type "object") = some true)
    (xv3 : cd3.mro.contains (.type "ValueError") = true) (xo3 : cd3.mro.contains (.ref C3) = true) (xr3 : ([C0, C1, C2, C3] : List Addr).map (fun D => cd3.mro.contains (.ref D)) = [true, false, false, true])
    (xn : PySem.W.specialIn K (.builtin "object.__class__") "__get__" = some (some (.builtin "getset_descriptor.__get__"))) (xt : PySem.W.takesIn K (.builtin "object.__class__") = some true)
    : ∃ (M : Lm) (fd : FuncData) (cs : Mk), Mk0 K cs h ∧ M.tabs = cs.map (·.2) ∧ M.caps = [] ∧ M.codes = [] ∧ (∀ (s : Shared) (v : Value), BindsTo s fd ⟨[v], []⟩ [("_law_script", v)]) ∧ ∀ base : Heap, K.In base → base.Ns mainGlobals mg → MkB base mg cs → base.NoDigits → FnS P w K M mg base 15 fa fd ["_law_script"] flaw := by
  have e := hfa.symm.trans (PySem.W.mg_of X G a37)
  cases e
  have N0 := Kn.mk' (st := sL_mixed) (ps := ["_law_number", "_law_k"]) X G a0 l0 c0 k0 fun _ _ _ _ _ _ us hl => match us, hl with | [_, _], _ => rfl
  have N1 := Kn.mk' (st := sL_stream) (ps := ["_law_cell", "_law_k"]) X G a1 l1 c1 k1 fun _ _ _ _ _ _ us hl => match us, hl with | [_, _], _ => rfl
  have N2 := Kn.mk' (st := sL_take) (ps := ["_law_stream_here", "_law_many"]) X G a2 l2 c2 k2 fun _ _ _ _ _ _ us hl => match us, hl with | [_, _], _ => rfl
  have N3 := Kn.mk' (st := sL_table_by) (ps := ["_law_stream_here", "_law_many", "_law_kind"]) X G a3 l3 c3 k3 fun _ _ _ _ _ _ us hl => match us, hl with | [_, _, _], _ => rfl
  have N4 := Kn.mk' (st := sL_kind_by) (ps := ["_law_stream_here"]) X G a4 l4 c4 k4 fun _ _ _ _ _ _ us hl => match us, hl with | [_], _ => rfl
  have N5 := Kn.mk' (st := sis_whole) (ps := ["thing"]) X G a5 l5 c5 k5 fun _ _ _ _ _ _ us hl => match us, hl with | [_], _ => rfl
  have N6 := Kn.mk' (st := sis_among) (ps := ["thing", "least", "most"]) X G a6 l6 c6 k6 fun _ _ _ _ _ _ us hl => match us, hl with | [_, _, _], _ => rfl
  have N7 := Kn.mk' (st := sis_table) (ps := ["thing", "many"]) X G a7 l7 c7 k7 fun _ _ _ _ _ _ us hl => match us, hl with | [_, _], _ => rfl
  have N8 := Kn.mk' (st := sis_own) (ps := ["thing"]) X G a8 l8 c8 k8 fun _ _ _ _ _ _ us hl => match us, hl with | [_], _ => rfl
  have N9 := Kn.mk' (st := sis_kind) (ps := ["thing"]) X G a9 l9 c9 k9 fun _ _ _ _ _ _ us hl => match us, hl with | [_], _ => rfl
  have N10 := Kn.mk' (st := sneed_kind) (ps := ["thing"]) X G a10 l10 c10 k10 fun _ _ _ _ _ _ us hl => match us, hl with | [_], _ => rfl
  have N11 := Kn.mk' (st := sis_finite) (ps := ["kind"]) X G a11 l11 c11 k11 fun _ _ _ _ _ _ us hl => match us, hl with | [_], _ => rfl
  have N12 := Kn.mk' (st := sL_part) (ps := ["_law_one", "_law_other"]) X G a12 l12 c12 k12 fun _ _ _ _ _ _ us hl => match us, hl with | [_, _], _ => rfl
  have N13 := Kn.mk' (st := sL_lowest) (ps := ["_law_above", "_law_below"]) X G a13 l13 c13 k13 fun _ _ _ _ _ _ us hl => match us, hl with | [_, _], _ => rfl
  have N14 := Kn.mk' (st := smany_worths) (ps := ["kind"]) X G a14 l14 c14 k14 fun _ _ _ _ _ _ us hl => match us, hl with | [_], _ => rfl
  have N15 := Kn.mk' (st := sL_small_by) (ps := ["_law_stream_here", "_law_kind"]) X G a15 l15 c15 k15 fun _ _ _ _ _ _ us hl => match us, hl with | [_, _], _ => rfl
  have N16 := Kn.mk' (st := scommon_part) (ps := ["one", "other"]) X G a16 l16 c16 k16 fun _ _ _ _ _ _ us hl => match us, hl with | [_, _], _ => rfl
  have N17 := Kn.mk' (st := sis_fraction) (ps := ["thing"]) X G a17 l17 c17 k17 fun _ _ _ _ _ _ us hl => match us, hl with | [_], _ => rfl
  have N18 := Kn.mk' (st := sis_about) (ps := ["figures", "thing"]) X G a18 l18 c18 k18 fun _ _ _ _ _ _ us hl => match us, hl with | [_, _], _ => rfl
  have N19 := Kn.mk' (st := sis_less) (ps := ["one", "other"]) X G a19 l19 c19 k19 fun _ _ _ _ _ _ us hl => match us, hl with | [_, _], _ => rfl
  have N20 := Kn.mk' (st := sis_of) (ps := ["kind", "thing"]) X G a20 l20 c20 k20 fun _ _ _ _ _ _ us hl => match us, hl with | [_, _], _ => rfl
  have N21 := Kn.mk' (st := sis_worth) (ps := ["kind", "thing"]) X G a21 l21 c21 k21 fun _ _ _ _ _ _ us hl => match us, hl with | [_, _], _ => rfl
  have N22 := Kn.mk' (st := sneed_worth) (ps := ["kind", "thing"]) X G a22 l22 c22 k22 fun _ _ _ _ _ _ us hl => match us, hl with | [_, _], _ => rfl
  have N23 := Kn.mk' (st := sshares_of) (ps := ["together"]) X G a23 l23 c23 k23 fun _ _ _ _ _ _ us hl => match us, hl with | [_], _ => rfl
  have N24 := Kn.mk' (st := sshare_place) (ps := ["one"]) X G a24 l24 c24 k24 fun _ _ _ _ _ _ us hl => match us, hl with | [_], _ => rfl
  have N25 := Kn.mk' (st := sroot_place) (ps := ["one"]) X G a25 l25 c25 k25 fun _ _ _ _ _ _ us hl => match us, hl with | [_], _ => rfl
  have N26 := Kn.mk' (st := sabouts_of) (ps := ["figures", "together"]) X G a26 l26 c26 k26 fun _ _ _ _ _ _ us hl => match us, hl with | [_, _], _ => rfl
  have N27 := Kn.mk' (st := sabout_place) (ps := ["figures", "one"]) X G a27 l27 c27 k27 fun _ _ _ _ _ _ us hl => match us, hl with | [_, _], _ => rfl
  have N28 := Kn.mk' (st := ssure_worths) (ps := []) X G a28 l28 c28 k28 fun _ _ _ _ _ _ us hl => match us, hl with | [], _ => rfl
  have N29 := Kn.mk' (st := splace_of) (ps := ["kind", "worth"]) X G a29 l29 c29 k29 fun _ _ _ _ _ _ us hl => match us, hl with | [_, _], _ => rfl
  have N30 := Kn.mk' (st := swhole_at) (ps := ["number"]) X G a30 l30 c30 k30 fun _ _ _ _ _ _ us hl => match us, hl with | [_], _ => rfl
  have N31 := Kn.mk' (st := sshare_at) (ps := ["number"]) X G a31 l31 c31 k31 fun _ _ _ _ _ _ us hl => match us, hl with | [_], _ => rfl
  have N32 := Kn.mk' (st := sroot_at) (ps := ["number"]) X G a32 l32 c32 k32 fun _ _ _ _ _ _ us hl => match us, hl with | [_], _ => rfl
  have N33 := Kn.mk' (st := sabout_at) (ps := ["figures", "number"]) X G a33 l33 c33 k33 fun _ _ _ _ _ _ us hl => match us, hl with | [_, _], _ => rfl
  have N34 := Kn.mk' (st := sworth_at) (ps := ["kind", "number"]) X G a34 l34 c34 k34 fun _ _ _ _ _ _ us hl => match us, hl with | [_, _], _ => rfl
  have N35 := Kn.mk' (st := sL_measure) (ps := ["_law_kind", "_law_worth"]) X G a35 l35 c35 k35 fun _ _ _ _ _ _ us hl => match us, hl with | [_, _], _ => rfl
  have N36 := Kn.mk' (st := sL_stretch_right) (ps := ["_law_kind", "_law_first", "_law_last", "_law_turn"]) X G a36 l36 c36 k36 fun _ _ _ _ _ _ us hl => match us, hl with | [_, _, _, _], _ => rfl
  have N37 := Kn.mk' (st := slaw) (ps := ["_law_script"]) X G a37 l37 c37 k37 fun _ _ _ _ _ _ us hl => match us, hl with | [_], _ => rfl
  have B : Bt mg := ⟨PySem.W.mg_none_of X G z_abs, PySem.W.mg_none_of X G z_all, PySem.W.mg_none_of X G z_bool, PySem.W.mg_none_of X G z_enumerate, PySem.W.mg_none_of X G z_int, PySem.W.mg_none_of X G z_isinstance, PySem.W.mg_none_of X G z_len, PySem.W.mg_none_of X G z_list, PySem.W.mg_none_of X G z_max, PySem.W.mg_none_of X G z_min, PySem.W.mg_none_of X G z_range, PySem.W.mg_none_of X G z_repr, PySem.W.mg_none_of X G z_set, PySem.W.mg_none_of X G z_sorted, PySem.W.mg_none_of X G z_str, PySem.W.mg_none_of X G z_sum, PySem.W.mg_none_of X G z_tuple⟩
  have C_SQUARES := Con.of2 X G g_SQUARES e_SQUARES
  have C_MOST_POWER := Con.of2 X G g_MOST_POWER e_MOST_POWER
  have C_FARTHEST := Con.of2 X G g_FARTHEST e_FARTHEST
  have C_MOST_PLACE := Con.of2 X G g_MOST_PLACE e_MOST_PLACE
  have C_WIDEST := Con.of2 X G g_WIDEST e_WIDEST
  have C_SIZES : Kdc K w mg "SIZES" mSIZES := Kdc.mk' X G g_SIZES dl_SIZES dk_SIZES dw_SIZES dd_SIZES
  have G_TowerError : mg "TowerError" = some (.ref ((Mof [C0, C1, C2, C3] []).cls 0)) := PySem.W.mg_of X G gc0
  have G_BadKind : mg "BadKind" = some (.ref ((Mof [C0, C1, C2, C3] []).cls 1)) := PySem.W.mg_of X G gc1
  have G_BadWorth : mg "BadWorth" = some (.ref ((Mof [C0, C1, C2, C3] []).cls 2)) := PySem.W.mg_of X G gc2
  have G_BadNumber : mg "BadNumber" = some (.ref ((Mof [C0, C1, C2, C3] []).cls 3)) := PySem.W.mg_of X G gc3
  have X_BadKind : XcF K ((Mof [C0, C1, C2, C3] []).cls 1) := ⟨xe1, xk1, xs1, tc1⟩
  have X_BadWorth : XcF K ((Mof [C0, C1, C2, C3] []).cls 2) := ⟨xe2, xk2, xs2, tc2⟩
  have X_BadNumber : XcF K ((Mof [C0, C1, C2, C3] []).cls 3) := ⟨xe3, xk3, xs3, tc3⟩
  have XT : SubOk K (Mof [C0, C1, C2, C3] []) subT := sub_mk (all_cl ⟨_, lc0, tc0, nc0, bc0⟩ (all_cl ⟨_, lc1, tc1, nc1, bc1⟩ (all_cl ⟨_, lc2, tc2, nc2, bc2⟩ (all_cl ⟨_, lc3, tc3, nc3, bc3⟩ all_cl0)))) (all_row ⟨C1, cd1, rfl, lc1, nc1, ⟨xg1, xa1, xs1, xd1, xc1, xn, xt, xm1⟩, xv1, xo1, xr1⟩ (all_row ⟨C2, cd2, rfl, lc2, nc2, ⟨xg2, xa2, xs2, xd2, xc2, xn, xt, xm2⟩, xv2, xo2, xr2⟩ (all_row ⟨C3, cd3, rfl, lc3, nc3, ⟨xg3, xa3, xs3, xd3, xc3, xn, xt, xm3⟩, xv3, xo3, xr3⟩ all_row0)))
  refine ⟨(Mof [C0, C1, C2, C3] []), PySem.W.fnOf "law" "law" (defArgs slaw) (defBody slaw) (defScope slaw)   .none kV37 dc37 pm37 an37 cv37 ct37, [], mk0_nil, rfl, rfl, rfl, fun s v => .of_eq rfl, fun base hb1 hb2 hmk hnd => ?_⟩
  have D_L_mixed := okL_mixed (P := P) (w := w) (M := (Mof [C0, C1, C2, C3] [])) (base := base) N0 rfl B
  have D_L_stream := okL_stream (P := P) (w := w) (M := (Mof [C0, C1, C2, C3] [])) (base := base) N1 rfl B D_L_mixed
  have D_L_take := okL_take (P := P) (w := w) (M := (Mof [C0, C1, C2, C3] [])) (base := base) N2 rfl B D_L_mixed
  have D_L_table_by := okL_table_by (P := P) (w := w) (M := (Mof [C0, C1, C2, C3] [])) (base := base) N3 rfl B D_L_take
  have D_L_kind_by := okL_kind_by (P := P) (w := w) (M := (Mof [C0, C1, C2, C3] [])) (base := base) N4 rfl B D_L_take D_L_table_by
  have D_is_whole := okis_whole (P := P) (w := w) (M := (Mof [C0, C1, C2, C3] [])) (base := base) N5 rfl B
  have D_is_among := okis_among (P := P) (w := w) (M := (Mof [C0, C1, C2, C3] [])) (base := base) N6 rfl B D_is_whole
  have D_is_table := okis_table (P := P) (w := w) (M := (Mof [C0, C1, C2, C3] [])) (base := base) N7 rfl B D_is_among
  have D_is_own := okis_own (P := P) (w := w) (M := (Mof [C0, C1, C2, C3] [])) (base := base) N8 rfl B D_is_table
  have D_is_kind := okis_kind (P := P) (w := w) (M := (Mof [C0, C1, C2, C3] [])) (base := base) N9 rfl B C_SQUARES D_is_own D_is_among C_SIZES
  have D_need_kind := okneed_kind (P := P) (w := w) (M := (Mof [C0, C1, C2, C3] [])) (base := base) N10 rfl B D_is_kind G_BadKind X_BadKind
  have D_is_finite := okis_finite (P := P) (w := w) (M := (Mof [C0, C1, C2, C3] [])) (base := base) N11 rfl B D_need_kind
  have D_L_part := okL_part (P := P) (w := w) (M := (Mof [C0, C1, C2, C3] [])) (base := base) N12 rfl B
  have D_L_lowest := okL_lowest (P := P) (w := w) (M := (Mof [C0, C1, C2, C3] [])) (base := base) N13 rfl B D_L_part
  have D_many_worths := okmany_worths (P := P) (w := w) (M := (Mof [C0, C1, C2, C3] [])) (base := base) N14 rfl B D_is_finite G_BadNumber X_BadNumber
  have D_L_small_by := okL_small_by (P := P) (w := w) (M := (Mof [C0, C1, C2, C3] [])) (base := base) N15 rfl B D_L_lowest D_L_take D_many_worths
  have D_common_part := okcommon_part (P := P) (w := w) (M := (Mof [C0, C1, C2, C3] [])) (base := base) N16 rfl B
  have D_is_fraction := okis_fraction (P := P) (w := w) (M := (Mof [C0, C1, C2, C3] [])) (base := base) N17 rfl B D_is_whole D_common_part
  have D_is_about := okis_about (P := P) (w := w) (M := (Mof [C0, C1, C2, C3] [])) (base := base) N18 rfl B C_MOST_POWER D_is_whole D_is_among
  have D_is_less := okis_less (P := P) (w := w) (M := (Mof [C0, C1, C2, C3] [])) (base := base) N19 rfl B
  have D_is_of := okis_of (P := P) (w := w) (M := (Mof [C0, C1, C2, C3] [])) (base := base) N20 rfl B D_is_whole D_is_fraction D_is_finite D_is_among D_many_worths D_is_about D_is_less
  have D_is_worth := okis_worth (P := P) (w := w) (M := (Mof [C0, C1, C2, C3] [])) (base := base) N21 rfl B D_need_kind D_is_of
  have D_need_worth := okneed_worth (P := P) (w := w) (M := (Mof [C0, C1, C2, C3] [])) (base := base) N22 rfl B D_is_worth G_BadWorth X_BadWorth
  have D_shares_of := okshares_of (P := P) (w := w) (M := (Mof [C0, C1, C2, C3] [])) (base := base) N23 rfl B D_common_part
  have D_share_place := okshare_place (P := P) (w := w) (M := (Mof [C0, C1, C2, C3] [])) (base := base) N24 rfl B C_FARTHEST C_MOST_PLACE D_shares_of
  have D_root_place := okroot_place (P := P) (w := w) (M := (Mof [C0, C1, C2, C3] [])) (base := base) N25 rfl B D_share_place
  have D_abouts_of := okabouts_of (P := P) (w := w) (M := (Mof [C0, C1, C2, C3] [])) (base := base) N26 rfl B D_is_about
  have D_about_place := okabout_place (P := P) (w := w) (M := (Mof [C0, C1, C2, C3] [])) (base := base) N27 rfl B C_FARTHEST C_MOST_PLACE D_abouts_of
  have D_sure_worths := oksure_worths (P := P) (w := w) (M := (Mof [C0, C1, C2, C3] [])) (base := base) N28 rfl B C_WIDEST
  have D_place_of := okplace_of (P := P) (w := w) (M := (Mof [C0, C1, C2, C3] [])) (base := base) N29 rfl B C_MOST_PLACE D_need_worth D_share_place D_root_place D_about_place D_sure_worths G_BadNumber X_BadNumber
  have D_whole_at := okwhole_at (P := P) (w := w) (M := (Mof [C0, C1, C2, C3] [])) (base := base) N30 rfl B
  have D_share_at := okshare_at (P := P) (w := w) (M := (Mof [C0, C1, C2, C3] [])) (base := base) N31 rfl B D_shares_of
  have D_root_at := okroot_at (P := P) (w := w) (M := (Mof [C0, C1, C2, C3] [])) (base := base) N32 rfl B D_share_at
  have D_about_at := okabout_at (P := P) (w := w) (M := (Mof [C0, C1, C2, C3] [])) (base := base) N33 rfl B D_abouts_of
  have D_worth_at := okworth_at (P := P) (w := w) (M := (Mof [C0, C1, C2, C3] [])) (base := base) N34 rfl B C_MOST_PLACE D_need_kind D_is_among D_whole_at D_share_at D_root_at D_about_at D_sure_worths D_many_worths G_BadNumber X_BadNumber
  have D_L_measure := okL_measure (P := P) (w := w) (M := (Mof [C0, C1, C2, C3] [])) (base := base) N35 rfl B D_place_of
  have D_L_stretch_right := okL_stretch_right (P := P) (w := w) (M := (Mof [C0, C1, C2, C3] [])) (base := base) N36 rfl B D_worth_at D_is_worth D_place_of D_L_measure
  exact okFlaw (P := P) (w := w) (M := (Mof [C0, C1, C2, C3] [])) (base := base) N37 rfl B D_L_stream D_L_kind_by D_is_finite D_many_worths D_worth_at D_L_take D_L_stretch_right D_L_small_by D_place_of

end Sm
namespace Sm
open PySem PySem.Spec PyProof.Rows L2
local macro_rules | `(tactic| walk_at "sme1") => `(tactic| (with_reducible first
  | refine Rule.out ?_ | (refine g_br ?_; first | refine br_tt (by with_unfolding_all rfl) ?_ | refine br_ff (by with_unfolding_all rfl) ?_)
  | (refine g_ex ?_; first | refine ex_var (by with_unfolding_all rfl) ?_ | refine ex_put (by with_unfolding_all rfl) ?_ | refine ex_r1 (by exact isSm_of (by omega) (by omega)) ?_ | refine ex_r2 (by exact isSm_of (by omega) (by omega)) (by exact isSm_of (by omega) (by omega)) ?_ | refine ex_md (by with_unfolding_all rfl) ?_ | refine ex_g2 (by exact rgOkB_of (by omega) (by omega) (by omega) (by omega)) ?_)
  | (refine g_and ?_; first | refine and_len (by with_unfolding_all rfl) ?_ | refine and_lens (by with_unfolding_all rfl) ?_ | refine and_ty (by first | with_unfolding_all rfl | exact hasTy_l (by assumption)) ?_ | refine and_g (by exact rgOkB_of (by omega) (by omega) (by omega) (by omega)) ?_ | refine and_b (by with_unfolding_all rfl) ?_ | refine sgL_len (by assumption) ?_)
  | (refine HasC.go ?_; first | refine o_frz (by with_unfolding_all rfl) ?_ | refine o_ixL (by assumption) (by with_unfolding_all rfl) ?_ | refine o_ixl (by with_unfolding_all rfl) ?_ | refine o_ixt (by with_unfolding_all rfl) ?_ | refine o_finS (by with_unfolding_all rfl) ?_ | refine o_fin (by with_unfolding_all rfl) ?_ | refine e_len (by with_unfolding_all rfl) ?_ | refine e_in (by with_unfolding_all rfl) ?_ | refine e_eq (by with_unfolding_all rfl) ?_ | refine e_ne (by with_unfolding_all rfl) ?_ | refine e_is (by with_unfolding_all rfl) ?_ | refine e_isi (by with_unfolding_all rfl) ?_ | refine e_isX (by with_unfolding_all rfl) ?_ | refine o_mul (by exact cMul64 (by omega) (by omega)) ?_ | refine o_fdiv (by first | exact cDiv64 (by omega) (by omega) | with_unfolding_all rfl) ?_ | refine o_pow (by first | exact cPow64 (by omega) (by omega) (by omega) | with_unfolding_all rfl) ?_ | refine o_disp (by with_unfolding_all rfl) ?_ | refine o_dispd (by with_unfolding_all rfl) ?_ | refine o_lenS (by assumption) ?_ | refine o_cutS (by assumption) ?_ | refine o_aug (by with_unfolding_all rfl) ?_ | refine o_lam ?_)))
local macro_rules | `(tactic| walk_at "sme") => `(tactic| repeat (with_reducible first
  | refine Rule.out ?_ | (refine g_br ?_; first | refine br_tt (by with_unfolding_all rfl) ?_ | refine br_ff (by with_unfolding_all rfl) ?_)
  | (refine g_ex ?_; first | refine ex_var (by with_unfolding_all rfl) ?_ | refine ex_put (by with_unfolding_all rfl) ?_ | refine ex_r1 (by exact isSm_of (by omega) (by omega)) ?_ | refine ex_r2 (by exact isSm_of (by omega) (by omega)) (by exact isSm_of (by omega) (by omega)) ?_ | refine ex_md (by with_unfolding_all rfl) ?_ | refine ex_g2 (by exact rgOkB_of (by omega) (by omega) (by omega) (by omega)) ?_)
  | (refine g_and ?_; first | refine and_len (by with_unfolding_all rfl) ?_ | refine and_lens (by with_unfolding_all rfl) ?_ | refine and_ty (by first | with_unfolding_all rfl | exact hasTy_l (by assumption)) ?_ | refine and_g (by exact rgOkB_of (by omega) (by omega) (by omega) (by omega)) ?_ | refine and_b (by with_unfolding_all rfl) ?_ | refine sgL_len (by assumption) ?_)
  | (refine HasC.go ?_; first | refine o_frz (by with_unfolding_all rfl) ?_ | refine o_ixL (by assumption) (by with_unfolding_all rfl) ?_ | refine o_ixl (by with_unfolding_all rfl) ?_ | refine o_ixt (by with_unfolding_all rfl) ?_ | refine o_finS (by with_unfolding_all rfl) ?_ | refine o_fin (by with_unfolding_all rfl) ?_ | refine e_len (by with_unfolding_all rfl) ?_ | refine e_in (by with_unfolding_all rfl) ?_ | refine e_eq (by with_unfolding_all rfl) ?_ | refine e_ne (by with_unfolding_all rfl) ?_ | refine e_is (by with_unfolding_all rfl) ?_ | refine e_isi (by with_unfolding_all rfl) ?_ | refine e_isX (by with_unfolding_all rfl) ?_ | refine o_mul (by exact cMul64 (by omega) (by omega)) ?_ | refine o_fdiv (by first | exact cDiv64 (by omega) (by omega) | with_unfolding_all rfl) ?_ | refine o_pow (by first | exact cPow64 (by omega) (by omega) (by omega) | with_unfolding_all rfl) ?_ | refine o_disp (by with_unfolding_all rfl) ?_ | refine o_dispd (by with_unfolding_all rfl) ?_ | refine o_lenS (by assumption) ?_ | refine o_cutS (by assumption) ?_ | refine o_aug (by with_unfolding_all rfl) ?_ | refine o_lam ?_)))
local macro_rules | `(tactic| walk_at "sm") => `(tactic| (with_reducible first
  | refine Rule.out ?_ | refine RuleS.out ?_ | (refine g_br ?_; first | refine br_tt (by with_unfolding_all rfl) ?_ | refine br_ff (by with_unfolding_all rfl) ?_)
  | (refine g_ex ?_; first | refine ex_var (by with_unfolding_all rfl) ?_ | refine ex_put (by with_unfolding_all rfl) ?_ | refine ex_r1 (by exact isSm_of (by omega) (by omega)) ?_ | refine ex_r2 (by exact isSm_of (by omega) (by omega)) (by exact isSm_of (by omega) (by omega)) ?_ | refine ex_md (by with_unfolding_all rfl) ?_ | refine ex_g2 (by exact rgOkB_of (by omega) (by omega) (by omega) (by omega)) ?_)
  | (refine g_and ?_; first | refine and_len (by with_unfolding_all rfl) ?_ | refine and_lens (by with_unfolding_all rfl) ?_ | refine and_ty (by first | with_unfolding_all rfl | exact hasTy_l (by assumption)) ?_ | refine and_g (by exact rgOkB_of (by omega) (by omega) (by omega) (by omega)) ?_ | refine and_b (by with_unfolding_all rfl) ?_ | refine sgL_len (by assumption) ?_)
  | (refine HasC.go ?_; first | refine o_frz (by with_unfolding_all rfl) ?_ | refine o_ixL (by assumption) (by with_unfolding_all rfl) ?_ | refine o_ixl (by with_unfolding_all rfl) ?_ | refine o_ixt (by with_unfolding_all rfl) ?_ | refine o_finS (by with_unfolding_all rfl) ?_ | refine o_fin (by with_unfolding_all rfl) ?_ | refine e_len (by with_unfolding_all rfl) ?_ | refine e_in (by with_unfolding_all rfl) ?_ | refine e_eq (by with_unfolding_all rfl) ?_ | refine e_ne (by with_unfolding_all rfl) ?_ | refine e_is (by with_unfolding_all rfl) ?_ | refine e_isi (by with_unfolding_all rfl) ?_ | refine e_isX (by with_unfolding_all rfl) ?_ | refine o_mul (by exact cMul64 (by omega) (by omega)) ?_ | refine o_fdiv (by first | exact cDiv64 (by omega) (by omega) | with_unfolding_all rfl) ?_ | refine o_pow (by first | exact cPow64 (by omega) (by omega) (by omega) | with_unfolding_all rfl) ?_ | refine o_disp (by with_unfolding_all rfl) ?_ | refine o_dispd (by with_unfolding_all rfl) ?_ | refine o_lenS (by assumption) ?_ | refine o_cutS (by assumption) ?_ | refine o_aug (by with_unfolding_all rfl) ?_ | refine o_lam ?_)))
local macro_rules | `(tactic| walk_at "sms") => `(tactic| repeat (with_reducible first
  | refine Rule.out ?_ | refine RuleS.out ?_ | (refine g_br ?_; first | refine br_tt (by with_unfolding_all rfl) ?_ | refine br_ff (by with_unfolding_all rfl) ?_)
  | (refine g_ex ?_; first | refine ex_var (by with_unfolding_all rfl) ?_ | refine ex_put (by with_unfolding_all rfl) ?_ | refine ex_r1 (by exact isSm_of (by omega) (by omega)) ?_ | refine ex_r2 (by exact isSm_of (by omega) (by omega)) (by exact isSm_of (by omega) (by omega)) ?_ | refine ex_md (by with_unfolding_all rfl) ?_ | refine ex_g2 (by exact rgOkB_of (by omega) (by omega) (by omega) (by omega)) ?_)
  | (refine g_and ?_; first | refine and_len (by with_unfolding_all rfl) ?_ | refine and_lens (by with_unfolding_all rfl) ?_ | refine and_ty (by first | with_unfolding_all rfl | exact hasTy_l (by assumption)) ?_ | refine and_g (by exact rgOkB_of (by omega) (by omega) (by omega) (by omega)) ?_ | refine and_b (by with_unfolding_all rfl) ?_ | refine sgL_len (by assumption) ?_)
  | (refine HasC.go ?_; first | refine o_frz (by with_unfolding_all rfl) ?_ | refine o_ixL (by assumption) (by with_unfolding_all rfl) ?_ | refine o_ixl (by with_unfolding_all rfl) ?_ | refine o_ixt (by with_unfolding_all rfl) ?_ | refine o_finS (by with_unfolding_all rfl) ?_ | refine o_fin (by with_unfolding_all rfl) ?_ | refine e_len (by with_unfolding_all rfl) ?_ | refine e_in (by with_unfolding_all rfl) ?_ | refine e_eq (by with_unfolding_all rfl) ?_ | refine e_ne (by with_unfolding_all rfl) ?_ | refine e_is (by with_unfolding_all rfl) ?_ | refine e_isi (by with_unfolding_all rfl) ?_ | refine e_isX (by with_unfolding_all rfl) ?_ | refine o_mul (by exact cMul64 (by omega) (by omega)) ?_ | refine o_fdiv (by first | exact cDiv64 (by omega) (by omega) | with_unfolding_all rfl) ?_ | refine o_pow (by first | exact cPow64 (by omega) (by omega) (by omega) | with_unfolding_all rfl) ?_ | refine o_disp (by with_unfolding_all rfl) ?_ | refine o_dispd (by with_unfolding_all rfl) ?_ | refine o_lenS (by assumption) ?_ | refine o_cutS (by assumption) ?_ | refine o_aug (by with_unfolding_all rfl) ?_ | refine o_lam ?_)))

def strm (b : Bool) (c m x : Int) : Ob := .lst false [.bl b, .int c, .int m, .int x]
structure StE (S0 S : Sto) (n : Nat) (m : Int) : Prop where
  len : S.length = S0.length
  oth : ∀ j, j ≠ n → S[j]? = S0[j]?
  at_ : ∃ b c k x, S[n]? = some (strm b c k x) ∧ 0 ≤ k ∧ k ≤ m
section
variable {S S0 : Sto} {P : D → Sto → Prop} {E : D → Sto → Prop} {n : Nat} {m : Int}
theorem StE.refl {b : Bool} {c k x : Int} (h : S[n]? = some (strm b c k x)) (h0 : 0 ≤ k) (h1 : k ≤ m) : StE S S n m := ⟨rfl, fun _ _ => rfl, b, c, k, x, h, h0, h1⟩
theorem StE.put {b : Bool} {c k x : Int} (h : StE S0 S n m) (h0 : 0 ≤ k) (h1 : k ≤ m + 1) : StE S0 (S.set n (strm b c k x)) n (m + 1) := by
  obtain ⟨l, o, b', c', k', x', e, _, _⟩ := h
  exact ⟨by rw [set_len, l], fun j hj => (get_set_ne hj).trans (o j hj), b, c, k, x, get_set e, h0, h1⟩
theorem StE.up {m' : Int} (h : StE S0 S n m) (hm : m ≤ m') : StE S0 S n m' := by
  obtain ⟨l, o, b', c', k', x', e, h0, h1⟩ := h
  exact ⟨l, o, b', c', k', x', e, h0, by omega⟩
theorem mixed_ok {a k : Int} (h0 : 0 ≤ k) (h1 : k ≤ 1000000) (h : ∀ v : Int, P (.int v) S) : OKR (fL_mixed [.int a, .int k] S) P E := by
  refine o_fn rfl ?_
  unfold bL_mixed
  have q0 : 0 ≤ k * k := Int.mul_nonneg h0 h0
  have q1 : k * k ≤ 1000000 * 1000000 := Int.mul_le_mul h1 h1 h0 (by decide)
  have q2 : 7919 * k * k = 7919 * (k * k) := Int.mul_assoc ..
  walk_at "sms"
  refine o_modB (by decide) fun v0 hv0 hv1 => ?_
  walk_at "sms"
  refine o_modB (by decide) fun v1 hv2 hv3 => ?_
  walk_at "sms"
  refine o_modB (by decide) fun v2 hv4 hv5 => ?_
  walk_at "sms"
  exact h _
theorem take_ok {many : Int} (st : StE S0 S n m) (hm : m ≤ 900000) (h0 : 0 < many) (h1 : many < 1000000000) (h : ∀ v S1, 0 ≤ v → v < many → StE S0 S1 n (m + 1) → P (.int v) S1) : OKR (fL_take [.ref n, .int many] S) P E := by
  obtain ⟨b, c, k, x, e, k0, k1⟩ := st.at_
  have g := getL_ref e
  refine o_fn rfl ?_
  unfold bL_take
  walk_at "sms"
  refine o_setL e rfl rfl fun S1 hS => ?_
  have st1 : StE S0 S1 n (m + 1) := by
    rw [hS]
    exact st.put (b := b) (c := c) (k := k + 1) (x := x) (by omega) (by omega)
  have e1 : S1[n]? = some (strm b c (k + 1) x) := by
    rw [hS]
    exact get_set e
  have g1 := getL_ref e1
  have l1 : S1.length = S.length := by
    rw [hS]
    exact set_len
  clear hS
  refine o_seq (o_if (OKR.any (S := S1) ?_ ?_ ?_))
  · walk_at "sms"
    refine br_any ?_ rfl
    walk_at "sms"
    refine br_any rfl ?_
    walk_at "sms"
    rfl
  · walk_at "sms"
    refine mixed_ok (by omega) (by omega) fun v => ?_
    walk_at "sms"
    refine o_modB h0 fun w hw0 hw1 => ?_
    walk_at "sms"
    rw [List.take_of_length_le (by omega)]
    exact h w S1 hw0 hw1 st1
  · walk_at "sms"
    refine o_modB h0 fun w hw0 hw1 => ?_
    walk_at "sms"
    refine o_setL e1 rfl rfl fun S2 hS => ?_
    walk_at "sms"
    have st2 : StE S0 S2 n (m + 1) := by
      obtain ⟨l, o, _⟩ := st1
      rw [hS]
      exact ⟨by rw [set_len, l], fun j hj => (get_set_ne hj).trans (o j hj), b, _, k + 1, x, get_set e1, by omega, by omega⟩
    rw [List.take_of_length_le (by
      rw [hS, set_len]
      omega)]
    exact h w S2 hw0 hw1 st2
theorem stream_ok {c k : Int} (h0 : 0 ≤ k) (h1 : k ≤ 1000000) (h : ∀ b x, P (.ref S.length) (S ++ [strm b c 0 x])) : OKR (fL_stream [.int c, .int k] S) P E := by
  refine o_fn rfl ?_
  unfold bL_stream
  walk_at "sms"
  refine mixed_ok h0 h1 fun v => ?_
  walk_at "sms"
  exact h _ _
theorem StE.trans {S1 : Sto} {m' : Int} (h : StE S0 S n m) (h1 : StE S S1 n m') : StE S0 S1 n m' := ⟨h1.len.trans h.len, fun j hj => (h1.oth j hj).trans (h.oth j hj), h1.at_⟩
theorem enumL_mem : ∀ (l : List D) (i : Nat), ∀ d ∈ enumL i l, ∃ (j : Nat) (x : D), d = .tup [.int j, x] ∧ j < i + l.length ∧ x ∈ l
  | [], _, d, h => by cases h
  | y :: l, i, d, h => by
    rcases List.mem_cons.mp h with rfl | h
    · exact ⟨i, y, rfl, by rw [List.length_cons]; omega, List.mem_cons_self ..⟩
    · obtain ⟨j, x, e1, e2, e3⟩ := enumL_mem l (i + 1) d h
      exact ⟨j, x, e1, by rw [List.length_cons]; omega, List.mem_cons_of_mem _ e3⟩
theorem cells_mem {ns : List Int} (hl : ns.length ≤ 63) {d : D} (hd : d ∈ enumL 0 (cutL (ns.map D.int ++ [.int 0]) none (some 63))) : ∃ (j : Nat) (x : Int), d = .tup [.int j, .int x] ∧ j ≤ 63 := by
  obtain ⟨j, x, rfl, hj, hx⟩ := enumL_mem _ 0 d hd
  have hx2 := List.mem_of_mem_drop (List.mem_of_mem_take hx)
  have hj4 : (cutL (ns.map D.int ++ [D.int 0]) none (some ((63 : Nat) : Int))).length ≤ 63 := by
    rw [cut_take, List.length_take]
    omega
  have hj5 : j < 0 + (cutL (ns.map D.int ++ [D.int 0]) none (some ((63 : Nat) : Int))).length := hj
  rcases List.mem_append.mp hx2 with hx2 | hx2
  · obtain ⟨i, _, rfl⟩ := List.mem_map.mp hx2
    exact ⟨j, i, rfl, by omega⟩
  · rw [List.mem_singleton.mp hx2]
    exact ⟨j, 0, rfl, by omega⟩
end

section
variable {S S0 : Sto} {P : D → Sto → Prop} {E : D → Sto → Prop} {n : Nat} {m : Int}
theorem common_part_ok {a b : Int} (hb : b.natAbs < 10 ^ 3990) (h : P (.int (Int.gcd a b)) S) : OKR (fcommon_part [.int a, .int b] S) P E := by
  refine o_fn rfl ?_
  unfold bcommon_part
  walk_at "sms"
  refine o_while (fun k env S1 => S1 = S ∧ ∃ x y : Nat, env = [some (.int x), some (.int y)] ∧ Nat.gcd x y = Int.gcd a b ∧ k = y) ?_ b.natAbs _ _ (fuel_ok hb) ⟨rfl, a.natAbs, b.natAbs, rfl, rfl, rfl⟩
  rintro k env S1 ⟨rfl, x, y, rfl, hg, rfl⟩
  unfold bcommon_part_t0
  walk_at "sme"
  refine br_dec (fun h1 => ?_) fun h1 => ?_
  · have e : k = 0 := by omega
    subst e
    walk_at "sms"
    rw [Nat.gcd_zero_right] at hg
    rw [hg]
    exact h
  · unfold bcommon_part_w1
    walk_at "sms"
    refine o_mod (cMod_ne h1) ?_
    walk_at "sms"
    refine ⟨x % k, Nat.mod_lt _ (by omega), rfl, k, x % k, ?_, ?_, rfl⟩
    · rw [nat_fmod]
      rfl
    · rw [← hg, Nat.gcd_comm x k, Nat.gcd_rec k x, Nat.gcd_comm]
end

section
variable {S S0 : Sto} {P : D → Sto → Prop} {E : D → Sto → Prop} {n : Nat} {m : Int}
theorem b3990 {k : Nat} (h : k < 10 ^ 2200) : k < 10 ^ 3990 := Nat.lt_of_lt_of_le h (Nat.pow_le_pow_right (n := 10) (i := 2200) (j := 3990) (show 0 < 10 by decide) (show 2200 ≤ 3990 by decide))
end

section
variable {S S0 : Sto} {P : D → Sto → Prop} {E : D → Sto → Prop} {n : Nat} {m : Int}
theorem L_part_ok {a b : Int} (ha : a.natAbs < 10 ^ 3900) (hb : b.natAbs < 10 ^ 3900) (h : P (.int (Int.gcd a b)) S) : OKR (fL_part [.int a, .int b] S) P E := by
  refine o_fn rfl ?_
  unfold bL_part
  walk_at "sms"
  have hl : a.natAbs + b.natAbs < 10 ^ 3990 := by
    have h2 : 10 ^ 3900 + 10 ^ 3900 ≤ 10 ^ 3990 := by decide +kernel
    exact Nat.lt_of_lt_of_le (Nat.add_lt_add ha hb) h2
  refine o_while (fun k env S1 => S1 = S ∧ ∃ x y : Nat, env = [some (.int x), some (.int y)] ∧ Nat.gcd x y = Int.gcd a b ∧ k = x + y) ?_ (a.natAbs + b.natAbs) _ _ (fuel_ok hl) ⟨rfl, a.natAbs, b.natAbs, rfl, rfl, rfl⟩
  rintro k env S1 ⟨rfl, x, y, rfl, hg, rfl⟩
  have out : x = 0 ∨ y = 0 → OKS (retF (binF addD (varF 0) (varF 1)) [some (D.int x), some (D.int y)] S1) (fun _ S' => OKR (if true = true then fin S1.length .non S' else .ok .non S') P E) (fun _ _ => False) (fun _ _ => False) (fun d S' => OKR (if true = true then fin S1.length d S' else .ok d S') P E) (fun e _ S' => E e (S'.take S1.length)) := fun q => by
    walk_at "sms"
    have e : (x : Int) + (y : Int) = (Int.gcd a b : Int) := by
      rcases q with q | q
      · subst q
        rw [Nat.gcd_zero_left] at hg
        omega
      · subst q
        rw [Nat.gcd_zero_right] at hg
        omega
    rw [e]
    exact h
  unfold bL_part_t0
  walk_at "sme"
  refine br_dec (fun h1 => ?_) fun h1 => ?_
  · walk_at "sme"
    refine br_dec (fun h2 => ?_) fun h2 => ?_
    · unfold bL_part_w1
      walk_at "sms"
      refine br_dec (fun h3 => ?_) fun h3 => ?_
      · walk_at "sms"
        refine o_mod (cMod_ne (by omega)) ?_
        refine ⟨x % y + y, ?_, rfl, x % y, y, ?_, ?_, rfl⟩
        · have := Nat.mod_lt x (show 0 < y by omega)
          omega
        · rw [nat_fmod]
          rfl
        · rw [← hg, Nat.gcd_comm x y, Nat.gcd_rec y x]
      · walk_at "sms"
        refine o_mod (cMod_ne (by omega)) ?_
        refine ⟨x + y % x, ?_, rfl, x, y % x, ?_, ?_, rfl⟩
        · have := Nat.mod_lt y (show 0 < x by omega)
          omega
        · rw [nat_fmod]
          rfl
        · rw [← hg, Nat.gcd_rec x y, Nat.gcd_comm]
    · exact out (.inr (by omega))
  · walk_at "sme"
    exact out (.inl (by omega))
end

def NB (k : Nat) (x : Int) : Prop := x.natAbs < 10 ^ k

inductive Dd where
  | plus | less | times | over
  deriving DecidableEq
def Dd.s : Dd → List Nat
  | .plus => [112, 108, 117, 115]
  | .less => [108, 101, 115, 115]
  | .times => [116, 105, 109, 101, 115]
  | .over => [111, 118, 101, 114]
section
variable {S S0 : Sto} {P : D → Sto → Prop} {E : D → Sto → Prop} {n : Nat} {m : Int}
theorem whole_ok {d : D} {t : Option Ty} {b : Bool} (ht : tyOf d S = some t) (hb : (tyIs t .int && !tyIs t .bool) = b) (h : P (.bl b) S) : OKR (fis_whole [d] S) P E := by
  refine o_fn rfl ?_
  unfold bis_whole
  walk_at "sms"
  refine o_isiT ht ?_
  walk_at "sms"
  cases h1 : tyIs t .int with
  | false =>
    walk_at "sms"
    rw [h1] at hb
    rw [show b = false from hb.symm] at h
    exact h
  | true =>
    walk_at "sms"
    refine o_isiT ht ?_
    walk_at "sms"
    rw [h1] at hb
    rw [show (!tyIs t .bool) = b from hb]
    exact h
theorem among_ok {x a b : Int} (h : P (.bl (decide (a ≤ x) && decide (x ≤ b))) S) : OKR (fis_among [.int x, .int a, .int b] S) P E := by
  refine o_fn rfl ?_
  unfold bis_among
  walk_at "sms"
  refine whole_ok (t := some .int) rfl rfl ?_
  walk_at "sms"
  refine br_dec (fun h1 => ?_) fun h1 => ?_
  · walk_at "sms"
    rw [decide_eq_true h1, Bool.true_and] at h
    exact h
  · walk_at "sms"
    rw [decide_eq_false h1, Bool.false_and] at h
    exact h
end

def Wf : Nat → Nat → D → Prop
  | _, _, .non => True
  | _, _, .bl _ => True
  | _, _, .int i => NB 500 i
  | _, _, .str s => cp s = true
  | _, _, .dic [] => True
  | n + 1, W, .tup l => l.length ≤ W ∧ ∀ x ∈ l, Wf n W x
  | n + 1, W, .lst l => l.length ≤ W ∧ ∀ x ∈ l, Wf n W x
  | _, _, _ => False
theorem nb_sm {i : Int} (h : i.natAbs < 10 ^ 100) : NB 500 i := Nat.lt_of_lt_of_le h (Nat.pow_le_pow_right (by decide) (by decide))
theorem Wf.int {n W : Nat} {i : Int} (h : NB 500 i) : Wf n W (.int i) := by simpa [Wf] using h
theorem Wf.of_int {n W : Nat} {i : Int} (h : Wf n W (.int i)) : NB 500 i := by simpa [Wf] using h
theorem Wf.nr : ∀ {n W : Nat} {d : D}, Wf n W d → nr d = true
  | _, _, .ref _, h => by simp [Wf] at h
  | _, _, .fn, h => by simp [Wf] at h
  | _, _, .non, _ => rfl
  | _, _, .bl _, _ => rfl
  | _, _, .int _, _ => rfl
  | _, _, .str _, _ => rfl
  | _, _, .dic _, _ => rfl
  | _, _, .tup _, _ => rfl
  | _, _, .lst _, _ => rfl
  | _, _, .exc _ _, _ => rfl
  | _, _, .cls _, _ => rfl
  | _, _, .ty _, _ => rfl
def ty0 : D → Option Ty
  | .bl _ => some .bool
  | .int _ => some .int
  | .str _ => some .str
  | .tup _ => some .tuple
  | .lst _ => some .list
  | .dic _ => some .dict
  | _ => none
theorem Wf.ty {n W : Nat} {d : D} (h : Wf n W d) (S : Sto) : tyOf d S = some (ty0 d) := by
  cases d with
  | ref _ => cases n <;> simp [Wf] at h
  | fn => cases n <;> simp [Wf] at h
  | exc _ _ => cases n <;> simp [Wf] at h
  | cls _ => cases n <;> simp [Wf] at h
  | ty _ => cases n <;> simp [Wf] at h
  | _ => rfl
theorem Wf.up : ∀ {n W m V : Nat} {d : D}, Wf n W d → n ≤ m → W ≤ V → Wf m V d
  | _, _, _, _, .non, _, _, _ => by simp [Wf]
  | _, _, _, _, .bl _, _, _, _ => by simp [Wf]
  | n, _, m, _, .int i, h, _, _ => by
    have h : NB 500 i := by simpa [Wf] using h
    simpa [Wf] using h
  | n, _, m, _, .str s, h, _, _ => by
    have h : cp s = true := by simpa [Wf] using h
    simpa [Wf] using h
  | n, _, m, _, .dic [], _, _, _ => by simp [Wf]
  | n, _, m, _, .dic (_ :: _), h, _, _ => by simp [Wf] at h
  | 0, _, _, _, .tup _, h, _, _ => by simp [Wf] at h
  | 0, _, _, _, .lst _, h, _, _ => by simp [Wf] at h
  | n + 1, W, 0, V, .tup l, _, hm, _ => by omega
  | n + 1, W, 0, V, .lst l, _, hm, _ => by omega
  | n + 1, W, m + 1, V, .tup l, h, hm, hV => by
    have h : l.length ≤ W ∧ ∀ x ∈ l, Wf n W x := by simpa only [Wf] using h
    have g : l.length ≤ V ∧ ∀ x ∈ l, Wf m V x := ⟨by omega, fun x hx => Wf.up (h.2 x hx) (by omega) hV⟩
    simpa only [Wf] using g
  | n + 1, W, m + 1, V, .lst l, h, hm, hV => by
    have h : l.length ≤ W ∧ ∀ x ∈ l, Wf n W x := by simpa only [Wf] using h
    have g : l.length ≤ V ∧ ∀ x ∈ l, Wf m V x := ⟨by omega, fun x hx => Wf.up (h.2 x hx) (by omega) hV⟩
    simpa only [Wf] using g
  | n, _, _, _, .ref _, h, _, _ => by cases n <;> simp [Wf] at h
  | n, _, _, _, .fn, h, _, _ => by cases n <;> simp [Wf] at h
  | n, _, _, _, .exc _ _, h, _, _ => by cases n <;> simp [Wf] at h
  | n, _, _, _, .cls _, h, _, _ => by cases n <;> simp [Wf] at h
  | n, _, _, _, .ty _, h, _, _ => by cases n <;> simp [Wf] at h
theorem Wf.of_tup {n W : Nat} {l : List D} (h : Wf n W (.tup l)) : ∃ k, n = k + 1 ∧ l.length ≤ W ∧ ∀ x ∈ l, Wf k W x := by
  cases n with
  | zero => simp [Wf] at h
  | succ k => exact ⟨k, rfl, by simpa only [Wf] using h⟩
theorem Wf.tup {n W : Nat} {l : List D} (h1 : l.length ≤ W) (h2 : ∀ x ∈ l, Wf n W x) : Wf (n + 1) W (.tup l) := by
  simpa only [Wf] using And.intro h1 h2
theorem Wf.lst {n W : Nat} {l : List D} (h1 : l.length ≤ W) (h2 : ∀ x ∈ l, Wf n W x) : Wf (n + 1) W (.lst l) := by
  simpa only [Wf] using And.intro h1 h2
abbrev wWhole : List Nat := [119, 104, 111, 108, 101]
abbrev wShare : List Nat := [115, 104, 97, 114, 101]
abbrev wRoot : List Nat := [114, 111, 111, 116]
abbrev wRest : List Nat := [114, 101, 115, 116]
abbrev wAbout : List Nat := [97, 98, 111, 117, 116]
abbrev wSure : List Nat := [115, 117, 114, 101]
abbrev wOwn : List Nat := [111, 119, 110]
def numB (d : D) (a b : Int) : Bool := match d with
  | .int x => decide (a ≤ x) && decide (x ≤ b)
  | _ => false
def rowB (m : Nat) : D → Bool
  | .tup r => decide (r.length = m) && r.all fun d => numB d 0 ((m : Int) - 1)
  | _ => false
def tableB (m : Nat) : D → Bool
  | .tup r => decide (r.length = m) && r.all (rowB m)
  | _ => false
def ownB : List D → Bool
  | [.tup a, t] => decide (2 ≤ a.length) && decide (a.length ≤ 6) && tableB a.length (.tup a) && tableB a.length t
  | _ => false
def freeB : D → Bool
  | .int x => !decide (x.fmod 4 = 0) && (!decide (x.fmod 9 = 0) && (!decide (x.fmod 25 = 0) && !decide (x.fmod 49 = 0)))
  | _ => false
def oneB (w : List Nat) (d : D) : Bool :=
  if w = wRoot then numB d 2 60 && freeB d else if w = wRest then numB d 2 12 else if w = wAbout then numB d 1 3 else if w = wSure then numB d 0 6 else false
def lastB (w : List Nat) : List D → Bool
  | [d] => oneB w d
  | _ => false
def kindB : D → Bool
  | .tup (.str w :: r) => if w = wWhole then r.isEmpty else if w = wShare then r.isEmpty else if w = wOwn then ownB r else lastB w r
  | _ => false
section
variable {S S0 : Sto} {P : D → Sto → Prop} {E : D → Sto → Prop} {n k W : Nat} {m : Int}
theorem among_any {d : D} {a b : Int} (hd : Wf k W d) (h : P (.bl (numB d a b)) S) : OKR (fis_among [d, .int a, .int b] S) P E := by
  cases d with
  | int x => exact among_ok h
  | bl c =>
    refine o_fn rfl ?_
    unfold bis_among
    walk_at "sms"
    refine whole_ok (t := some .bool) rfl rfl ?_
    walk_at "sms"
    exact h
  | ref _ => cases hd.nr
  | fn => cases hd.nr
  | exc _ _ => cases k <;> simp [Wf] at hd
  | cls _ => cases k <;> simp [Wf] at hd
  | ty _ => cases k <;> simp [Wf] at hd
  | _ =>
    refine o_fn rfl ?_
    unfold bis_among
    walk_at "sms"
    refine whole_ok (hd.ty S) rfl ?_
    walk_at "sms"
    exact h
theorem all_id {f : D → Bool} : ∀ l : List D, (l.map f).all id = l.all f
  | [] => rfl
  | d :: l => by
    rw [List.map_cons, List.all_cons, List.all_cons, all_id l]
    rfl
theorem filt_all (l : List D) : l.filter (fun _ => true) = l := List.filter_eq_self.mpr fun _ _ => rfl
end

section
variable {S S0 : Sto} {P : D → Sto → Prop} {E : D → Sto → Prop} {n k W : Nat} {m : Int}
theorem all_num {r : List D} {M : Nat} {Q : D → Sto → Prop} (hr : ∀ x ∈ r, Wf k W x) (h : Q (.bl (r.all fun d => numB d 0 ((M : Int) - 1))) S) :
    OKR (allM [.lst ((r.filter fun _ => true).map fun d => .bl (numB d 0 ((M : Int) - 1)))] S) Q E := by
  rw [filt_all]
  refine o_all (allBl_map _ _) ?_
  rw [all_id]
  exact h
theorem row_ok {d : D} {M : Nat} {N B C : Env → Sto → Prop} {T : D → Sto → Prop} {X : D → Env → Sto → Prop} {a0 a3 : Option D} (hd : Wf k W d) (hM : M ≤ 6) (h1 : rowB M d = true → ∀ a3, N [a0, some (.int M), some d, a3] S) (h2 : rowB M d = false → T (.bl false) S) :
    OKS (bis_table_l1 [a0, some (.int M), some d, a3] S) N B C T X := by
  unfold bis_table_l1 bis_table_e0
  walk_at "sms"
  refine o_isiT (hd.ty S) ?_
  walk_at "sms"
  cases d with
  | tup r =>
    obtain ⟨j, rfl, hl, hr⟩ := hd.of_tup
    walk_at "sms"
    refine br_dec (fun c => ?_) fun c => ?_
    · have e : rowB M (.tup r) = r.all fun d => numB d 0 ((M : Int) - 1) := by
        show (decide (r.length = M) && _) = _
        rw [decide_eq_true (by omega), Bool.true_and]
      rw [e] at h1 h2
      walk_at "sms"
      refine ⟨Nat.le_trans (show r.length ≤ 6 by omega) (Nat.le_of_ble_eq_true rfl), ?_⟩
      with_reducible refine lc_pure (fun _ => true) (fun d => .bl (numB d 0 ((M : Int) - 1))) ?_ ?_
      · intro d hd
        refine ⟨_, rfl, ?_, fun _ => ?_⟩
        · walk_at "sms"
          first | exact ⟨rfl, rfl⟩ | exact rfl
        · walk_at "sms"
          refine among_any (hr d hd) ?_
          exact ⟨rfl, rfl, rfl⟩
      · walk_at "sms"
        refine all_num hr ?_
        walk_at "sms"
        cases c2 : (r.all fun d => numB d 0 ((M : Int) - 1)) with
        | true =>
          walk_at "sms"
          exact h1 c2 _
        | false =>
          walk_at "sms"
          exact h2 c2
    · have e : rowB M (.tup r) = false := by
        show (decide (r.length = M) && _) = false
        rw [decide_eq_false (by omega), Bool.false_and]
      walk_at "sms"
      exact h2 e
  | ref _ => cases hd.nr
  | fn => cases hd.nr
  | exc _ _ => cases k <;> simp [Wf] at hd
  | cls _ => cases k <;> simp [Wf] at hd
  | ty _ => cases k <;> simp [Wf] at hd
  | _ =>
    walk_at "sms"
    exact h2 rfl
theorem table_ok {d : D} {M : Nat} (hd : Wf k W d) (hM : M ≤ 6) (h : P (.bl (tableB M d)) S) : OKR (fis_table [d, .int M] S) P E := by
  refine o_fn rfl ?_
  unfold bis_table
  walk_at "sms"
  refine o_isiT (hd.ty S) ?_
  walk_at "sms"
  cases d with
  | tup r =>
    obtain ⟨j, rfl, hl, hr⟩ := hd.of_tup
    walk_at "sms"
    refine br_dec (fun c => ?_) fun c => ?_
    · have e : tableB M (.tup r) = r.all (rowB M) := by
        show (decide (r.length = M) && _) = _
        rw [decide_eq_true (by omega), Bool.true_and]
      rw [e] at h
      walk_at "sms"
      refine forL_ok (fun l env S1 => S1 = S ∧ (∀ x ∈ l, Wf j W x) ∧ r.all (rowB M) = l.all (rowB M) ∧ ∃ a2 a3, env = [some (.tup r), some (.int M), a2, a3]) (fun _ _ _ _ _ z => by cases z) ?_ ?_ _ _ _ ⟨rfl, hr, rfl, _, _, rfl⟩
      · rintro x l env S1 ⟨rfl, hx, he, a2, a3, rfl⟩
        refine ⟨_, rfl, ?_⟩
        refine row_ok (hx x (List.mem_cons_self ..)) hM (fun c2 a3 => ?_) fun c2 => ?_
        · refine ⟨rfl, fun y hy => hx y (List.mem_cons_of_mem _ hy), ?_, _, _, rfl⟩
          rw [he, List.all_cons, c2, Bool.true_and]
        · rw [he, List.all_cons, c2, Bool.false_and] at h
          refine o_finS rfl ?_
          exact h
      · rintro env S1 ⟨rfl, _, he, a2, a3, rfl⟩
        rw [he] at h
        walk_at "sms"
        exact h
    · have e : tableB M (.tup r) = false := by
        show (decide (r.length = M) && _) = false
        rw [decide_eq_false (by omega), Bool.false_and]
      rw [e] at h
      walk_at "sms"
      exact h
  | ref _ => cases hd.nr
  | fn => cases hd.nr
  | exc _ _ => cases k <;> simp [Wf] at hd
  | cls _ => cases k <;> simp [Wf] at hd
  | ty _ => cases k <;> simp [Wf] at hd
  | _ =>
    walk_at "sms"
    exact h
theorem own_ok {w : List Nat} {r : List D} (hr : ∀ x ∈ r, Wf k W x) (h : P (.bl (ownB r)) S) : OKR (fis_own [.tup (.str w :: r)] S) P E := by
  refine o_fn rfl ?_
  unfold bis_own
  walk_at "sms"
  match r, hr, h with
  | [], _, h =>
    walk_at "sms"
    exact h
  | [x], _, h =>
    have e : ownB [x] = false := by cases x <;> rfl
    rw [e] at h
    walk_at "sms"
    exact h
  | a :: b :: c :: l, _, h =>
    have e : ownB (a :: b :: c :: l) = false := by cases a <;> rfl
    rw [e] at h
    refine br_ff (decide_eq_false ?_) ?_
    · simp only [List.length_cons]
      omega
    · walk_at "sms"
      exact h
  | [a, t], hr, h =>
    have ha := hr a (List.mem_cons_self ..)
    have ht := hr t (List.mem_cons_of_mem _ (List.mem_cons_self ..))
    walk_at "sms"
    refine o_isiT (ha.ty S) ?_
    walk_at "sms"
    cases a with
    | tup u =>
      have e : ownB [.tup u, t] = (decide (2 ≤ u.length) && decide (u.length ≤ 6) && tableB u.length (.tup u) && tableB u.length t) := rfl
      rw [e] at h
      walk_at "sms"
      refine br_dec (fun c1 => ?_) fun c1 => ?_
      · walk_at "sms"
        refine br_dec (fun c2 => ?_) fun c2 => ?_
        · rw [decide_eq_true (show 2 ≤ u.length by omega), decide_eq_true (show u.length ≤ 6 by omega), Bool.true_and, Bool.true_and] at h
          walk_at "sms"
          refine table_ok ha (by omega) ?_
          walk_at "sms"
          cases c3 : tableB u.length (.tup u) with
          | true =>
            rw [c3, Bool.true_and] at h
            walk_at "sms"
            refine table_ok ht (by omega) ?_
            walk_at "sms"
            exact h
          | false =>
            rw [c3, Bool.false_and] at h
            walk_at "sms"
            exact h
        · rw [decide_eq_false (show ¬ u.length ≤ 6 by omega), Bool.and_false, Bool.false_and, Bool.false_and] at h
          walk_at "sms"
          exact h
      · rw [decide_eq_false (show ¬ 2 ≤ u.length by omega), Bool.false_and, Bool.false_and, Bool.false_and] at h
        walk_at "sms"
        exact h
    | ref _ => cases ha.nr
    | fn => cases ha.nr
    | exc _ _ => cases k <;> simp [Wf] at ha
    | cls _ => cases k <;> simp [Wf] at ha
    | ty _ => cases k <;> simp [Wf] at ha
    | _ =>
      walk_at "sms"
      exact h
end
section
variable {S S0 : Sto} {P : D → Sto → Prop} {E : D → Sto → Prop} {n k W : Nat} {m : Int}
theorem o_ix0 {x : D} {r : List D} (h : P x S) : OKR (ixD (.tup (x :: r)) (.int 0) S) P E := o_ixt (atI_nat (j := 0) rfl) h
theorem str_beq {a w : List Nat} : eqV (.str a) (.str w) = decide (w = a) := by
  show (a == w) = decide (w = a)
  rw [Bool.eq_iff_iff, beq_iff_eq, decide_eq_true_iff]
  exact eq_comm
theorem in_two {w a b : List Nat} (hw : cp w = true) (ha : cp a = true) (hb : cp b = true) (h : P (.bl (decide (w = a) || decide (w = b))) S) : OKR (inD false (.str w) (.tup [.str a, .str b]) S) P E := by
  have key : inD false (.str w) (.tup [.str a, .str b]) S = if (okD 60 (.str w) && (true && okD 60 (.tup [.str a, .str b]))) = true then .ok (.bl ([D.str a, .str b].any fun y => eqV y (.str w))) S else .bad := by
    rcases w with _ | ⟨c, _ | ⟨c2, t⟩⟩ <;> rfl
  have ok2 : okD 60 (.tup [.str a, .str b]) = true := by
    show (okD 59 (.str a) && (okD 59 (.str b) && true)) = true
    rw [okD_str ha, okD_str hb]
    rfl
  rw [key, okD_str hw, ok2, if_pos (show (true && (true && true)) = true from rfl), List.any_cons, List.any_cons, List.any_nil, str_beq, str_beq, Bool.or_false]
  exact h
theorem no_sizes {w : List Nat} (h1 : w ≠ wRest) (h2 : w ≠ wAbout) (h3 : w ≠ wSure) : lookM mSIZES w = none := by
  unfold mSIZES
  simp only [lookM]
  rw [if_neg h1, if_neg h2, if_neg h3]
theorem num_cases {d : D} {a b : Int} (h : numB d a b = true) : ∃ x : Int, d = .int x ∧ a ≤ x ∧ x ≤ b := by
  cases d with
  | int x =>
    have h : (decide (a ≤ x) && decide (x ≤ b)) = true := h
    rw [Bool.and_eq_true, decide_eq_true_iff, decide_eq_true_iff] at h
    exact ⟨x, rfl, h.1, h.2⟩
  | _ => cases h
theorem kind_tail {w : List Nat} {r : List D} {N B C : Env → Sto → Prop} {T : D → Sto → Prop} {X : D → Env → Sto → Prop} (hw : cp w = true) (hr : ∀ x ∈ r, Wf k W x) (hT : T (.bl (kindB (.tup (.str w :: r)))) S) :
    OKS (bis_kind_s1 [some (.tup (.str w :: r)), none, none] S) N B C T X := by
  unfold bis_kind_s1 bis_kind_e0
  walk_at "sms"
  refine o_ix0 ?_
  walk_at "sms"
  have one : w = wWhole ∨ w = wShare → T (.bl (decide (((r.length : Nat) : Int) + 1 = 1))) S := fun h => by
    have e : kindB (.tup (.str w :: r)) = r.isEmpty := by
      unfold kindB
      dsimp only
      rcases h with rfl | rfl
      · rw [if_pos rfl]
      · rw [if_neg (by decide), if_pos rfl]
    have e2 : decide (((r.length : Nat) : Int) + 1 = 1) = r.isEmpty := by
      cases r with
      | nil => rfl
      | cons x r =>
        rw [decide_eq_false (by simp only [List.length_cons]; omega)]
        rfl
    rw [e2, ← e]
    exact hT
  by_cases e1 : w = wWhole
  · subst e1
    walk_at "sms"
    exact one (.inl rfl)
  by_cases e2 : w = wShare
  · subst e2
    walk_at "sms"
    exact one (.inr rfl)
  refine in_two hw (by decide) (by decide) ?_
  rw [decide_eq_false e1, decide_eq_false e2]
  walk_at "sms"
  by_cases e3 : w = wOwn
  · subst e3
    have e : kindB (.tup (.str wOwn :: r)) = ownB r := by
      unfold kindB
      dsimp only
      rw [if_neg e1, if_neg e2, if_pos rfl]
    rw [e] at hT
    walk_at "sms"
    refine own_ok hr ?_
    walk_at "sms"
    exact hT
  have e : kindB (.tup (.str w :: r)) = lastB w r := by
    unfold kindB
    dsimp only
    rw [if_neg e1, if_neg e2, if_neg e3]
  clear one
  rw [e] at hT
  refine br_ff (decide_eq_false e3) ?_
  walk_at "sms"
  match r, hr, hT with
  | [], _, hT =>
    walk_at "sms"
    exact hT
  | a :: b :: l, _, hT =>
    refine br_ff (decide_eq_false ?_) ?_
    · simp only [List.length_cons]
      omega
    · walk_at "sms"
      exact hT
  | [d], hr, hT =>
    have hd := hr d (List.mem_cons_self ..)
    have hT : T (.bl (oneB w d)) S := hT
    walk_at "sms"
    by_cases e4 : w = wRoot
    · subst e4
      have e : oneB wRoot d = (numB d 2 60 && freeB d) := if_pos rfl
      rw [e] at hT
      walk_at "sms"
      refine among_any hd ?_
      walk_at "sms"
      cases c : numB d 2 60 with
      | false =>
        rw [c, Bool.false_and] at hT
        walk_at "sms"
        exact hT
      | true =>
        rw [c, Bool.true_and] at hT
        obtain ⟨x, rfl, x0, x1⟩ := num_cases c
        walk_at "sms"
        refine o_mod (cMod_ne (by decide)) ?_
        walk_at "sms"
        refine o_mod (cMod_ne (by decide)) ?_
        walk_at "sms"
        refine o_mod (cMod_ne (by decide)) ?_
        walk_at "sms"
        refine o_mod (cMod_ne (by decide)) ?_
        walk_at "sms"
        refine o_all (l := _) rfl ?_
        walk_at "sms"
        unfold freeB at hT
        dsimp only at hT
        simp only [List.all_cons, List.all_nil, id, Bool.and_true]
        exact hT
    refine br_ff (decide_eq_false e4) ?_
    walk_at "sms"
    by_cases e5 : w = wRest
    · subst e5
      walk_at "sms"
      refine among_any hd ?_
      walk_at "sms"
      exact hT
    by_cases e6 : w = wAbout
    · subst e6
      walk_at "sms"
      refine among_any hd ?_
      walk_at "sms"
      exact hT
    by_cases e7 : w = wSure
    · subst e7
      walk_at "sms"
      refine among_any hd ?_
      walk_at "sms"
      exact hT
    have e : oneB w d = false := by
      unfold oneB
      rw [if_neg e4, if_neg e5, if_neg e6, if_neg e7]
    rw [e] at hT
    rw [no_sizes e5 e6 e7]
    walk_at "sms"
    exact hT
theorem is_kind_ok {d : D} (hd : Wf k W d) (h : P (.bl (kindB d)) S) : OKR (fis_kind [d] S) P E := by
  refine o_fn rfl ?_
  unfold bis_kind
  rw [← bis_kind_s1.eq_def]
  walk_at "sms"
  refine o_isiT (hd.ty S) ?_
  walk_at "sms"
  cases d with
  | tup l =>
    obtain ⟨j, rfl, hl, hr⟩ := hd.of_tup
    cases l with
    | nil =>
      walk_at "sms"
      refine o_eqE ?_
      walk_at "sms"
      exact h
    | cons x r =>
      have hx := hr x (List.mem_cons_self ..)
      walk_at "sms"
      refine o_eqE ?_
      walk_at "sms"
      refine o_ix0 ?_
      walk_at "sms"
      refine o_isiT (hx.ty S) ?_
      walk_at "sms"
      cases x with
      | str w =>
        walk_at "sms"
        refine kind_tail (by simpa [Wf] using hx) (fun y hy => hr y (List.mem_cons_of_mem _ hy)) ?_
        refine o_finS rfl ?_
        exact h
      | ref _ => cases hx.nr
      | fn => cases hx.nr
      | exc _ _ => cases j <;> simp [Wf] at hx
      | cls _ => cases j <;> simp [Wf] at hx
      | ty _ => cases j <;> simp [Wf] at hx
      | _ =>
        walk_at "sms"
        exact h
  | ref _ => cases hd.nr
  | fn => cases hd.nr
  | exc _ _ => cases k <;> simp [Wf] at hd
  | cls _ => cases k <;> simp [Wf] at hd
  | ty _ => cases k <;> simp [Wf] at hd
  | _ =>
    walk_at "sms"
    exact h
end

def Wr (d : D) : Prop := okD 60 d = true ∧ okI 500 d = true ∧ rlen 500 d ≤ LINE ∧ nr d = true
theorem see_nr {d : D} {S : Sto} (h : nr d = true) : see d S = d := by cases d <;> first | rfl | cases h
theorem hasR_nr {d : D} {S : Sto} (h : nr d = true) : hasR d S = true := by cases d <;> first | rfl | cases h
inductive KC : D → Prop where
  | whole : KC (.tup [.str wWhole])
  | share : KC (.tup [.str wShare])
  | root (x : Int) : 2 ≤ x → x ≤ 60 → KC (.tup [.str wRoot, .int x])
  | rest (x : Int) : 2 ≤ x → x ≤ 12 → KC (.tup [.str wRest, .int x])
  | about (x : Int) : 1 ≤ x → x ≤ 3 → KC (.tup [.str wAbout, .int x])
  | sure (x : Int) : 0 ≤ x → x ≤ 6 → KC (.tup [.str wSure, .int x])
  | own (u : List D) (t : D) : 2 ≤ u.length → u.length ≤ 6 → KC (.tup [.str wOwn, .tup u, t])
theorem kind_cases {t : D} (h : kindB t = true) : KC t := by
  cases t with
  | tup l =>
    match l, h with
    | [], h => cases h
    | .str w :: r, h =>
      unfold kindB at h
      dsimp only at h
      split at h
      · rename_i e
        subst e
        cases r with
        | nil => exact .whole
        | cons _ _ => cases h
      split at h
      · rename_i e
        subst e
        cases r with
        | nil => exact .share
        | cons _ _ => cases h
      split at h
      · rename_i e
        subst e
        match r, h with
        | [.tup u, t], h =>
          have h : (decide (2 ≤ u.length) && decide (u.length ≤ 6) && tableB u.length (.tup u) && tableB u.length t) = true := h
          simp only [Bool.and_eq_true, decide_eq_true_eq] at h
          exact .own u t h.1.1.1 h.1.1.2
        | [], h => cases h
        | [x], h => cases x <;> cases h
        | a :: b :: c :: r, h => cases a <;> cases h
        | [.non, t], h => cases h
        | [.bl _, t], h => cases h
        | [.int _, t], h => cases h
        | [.str _, t], h => cases h
        | [.lst _, t], h => cases h
        | [.dic _, t], h => cases h
        | [.ref _, t], h => cases h
        | [.exc _ _, t], h => cases h
        | [.cls _, t], h => cases h
        | [.ty _, t], h => cases h
        | [.fn, t], h => cases h
      · match r, h with
        | [], h => cases h
        | a :: b :: r, h => cases h
        | [d], h =>
          have h2 : oneB w d = true := h
          clear h
          unfold oneB at h2
          split at h2
          · rename_i e
            subst e
            rw [Bool.and_eq_true] at h2
            obtain ⟨x, rfl, x0, x1⟩ := num_cases h2.1
            exact .root x x0 x1
          split at h2
          · rename_i e
            subst e
            obtain ⟨x, rfl, x0, x1⟩ := num_cases h2
            exact .rest x x0 x1
          split at h2
          · rename_i e
            subst e
            obtain ⟨x, rfl, x0, x1⟩ := num_cases h2
            exact .about x x0 x1
          split at h2
          · rename_i e
            subst e
            obtain ⟨x, rfl, x0, x1⟩ := num_cases h2
            exact .sure x x0 x1
          · cases h2
    | .non :: _, h => cases h
    | .bl _ :: _, h => cases h
    | .int _ :: _, h => cases h
    | .tup _ :: _, h => cases h
    | .lst _ :: _, h => cases h
    | .dic _ :: _, h => cases h
    | .ref _ :: _, h => cases h
    | .exc _ _ :: _, h => cases h
    | .cls _ :: _, h => cases h
    | .ty _ :: _, h => cases h
    | .fn :: _, h => cases h
  | _ => cases h
def finB : D → Bool
  | .tup (.str w :: _) => decide (w = wRest) || decide (w = wOwn)
  | _ => false
def cntB : D → D
  | .tup [.str _, .int x] => .int x
  | .tup [.str _, .tup u, _] => .int u.length
  | _ => .non
section
variable {S S0 : Sto} {P : D → Sto → Prop} {E : D → Sto → Prop} {n k W : Nat} {m : Int}
theorem o_wr {d : D} (w : Wr d) (h : P (.str (reprD d)) S) : OKR (reprM [d] S) P E := by
  obtain ⟨w1, w2, w3, w4⟩ := w
  refine o_repr 500 (hasR_nr w4) (by rw [see_nr w4]; exact w1) (by rw [see_nr w4]; exact w2) (by rw [see_nr w4]; exact w3) (by decide) (by decide) ?_
  rw [see_nr w4]
  exact h
theorem need_kind_ok {d : D} (hd : Wf k W d) (h : if kindB d = true then P .non S else E (.exc k_BadKind []) S) : OKR (fneed_kind [d] S) P E := by
  refine o_fn rfl ?_
  unfold bneed_kind
  walk_at "sms"
  refine is_kind_ok hd ?_
  walk_at "sms"
  cases c : kindB d with
  | true =>
    rw [if_pos c] at h
    walk_at "sms"
    exact h
  | false =>
    rw [if_neg (by rw [c]; decide)] at h
    walk_at "sms"
    rw [take_all]
    exact h
theorem is_finite_ok {d : D} (hd : Wf k W d) (h : if kindB d = true then P (.bl (finB d)) S else E (.exc k_BadKind []) S) : OKR (fis_finite [d] S) P E := by
  refine o_fn rfl ?_
  unfold bis_finite
  walk_at "sms"
  refine need_kind_ok hd ?_
  cases c : kindB d with
  | false =>
    rw [if_neg (by rw [c]; decide)] at h
    rw [if_neg (by decide), take_all]
    exact h
  | true =>
    rw [if_pos c] at h
    rw [if_pos rfl]
    have kc := kind_cases c
    cases kc with
    | _ =>
      walk_at "sms"
      exact h
theorem many_ok {d : D} (hd : Wf k W d) (h : if kindB d = true then (if finB d = true then P (cntB d) S else E (.exc k_BadNumber []) S) else E (.exc k_BadKind []) S) : OKR (fmany_worths [d] S) P E := by
  refine o_fn rfl ?_
  unfold bmany_worths
  walk_at "sms"
  refine is_finite_ok hd ?_
  cases c : kindB d with
  | false =>
    rw [if_neg (by rw [c]; decide)] at h
    rw [if_neg (by decide), take_all]
    exact h
  | true =>
    rw [if_pos c] at h
    rw [if_pos rfl]
    walk_at "sms"
    have kc := kind_cases c
    cases kc with
    | rest x x0 x1 =>
      rw [if_pos (show finB (.tup [.str wRest, .int x]) = true from rfl)] at h
      walk_at "sms"
      exact h
    | own u t u0 u1 =>
      rw [if_pos (show finB (.tup [.str wOwn, .tup u, t]) = true from rfl)] at h
      walk_at "sms"
      exact h
    | _ =>
      have h : E (.exc k_BadNumber []) S := h
      walk_at "sms"
      rw [take_all]
      exact h
end

theorem ty_tup {d : D} (h : tyIs (ty0 d) .tuple = true) : ∃ l, d = .tup l := by
  cases d with
  | tup l => exact ⟨l, rfl⟩
  | _ => cases h
section
variable {S S0 : Sto} {P : D → Sto → Prop} {E : D → Sto → Prop} {n : Nat} {m : Int}
theorem o_cutTp {l : List D} {lo hi : Option Int} (h : P (.tup (cutL l lo hi)) S) : OKR (cutD (.tup l) lo hi S) P E := h
theorem lc_all {i : Nat} {e : Env → Sto → Res D} {env : Env} {o : Option Ob} {l : List D} {Q : D → Prop} {R : List D → Sto → Prop} {c : Nat} (st : StE S0 S n m)
    (he : ∀ d ∈ l, ∀ (S1 : Sto) (j : Nat), j < l.length → StE S0 S1 n (m + (c * j : Nat)) → ∃ env1, (Tgt.one i).put d env = some env1 ∧ OKR (e env1 S1) (fun v S2 => Q v ∧ nr v = true ∧ StE S0 S2 n (m + (c * (j + 1) : Nat))) fun _ _ => False)
    (h : ∀ r S1, r.length = l.length → (∀ x ∈ r, Q x) → StE S0 S1 n (m + (c * l.length : Nat)) → R r S1) : OKR (lcL (.one i) yesF e none o env l S) R E := by
  have key := lcL_ok (t := .one i) (c := yesF) (e := e) (g := none) (o := o) (env := env) (E := E) (P := R) (fun l2 S1 acc => (∀ d ∈ l2, d ∈ l) ∧ acc.length + l2.length = l.length ∧ (∀ x ∈ acc, Q x) ∧ StE S0 S1 n (m + (c * acc.length : Nat))) (fun _ _ _ _ _ z => by cases z) (fun d r S1 acc hI => ?_)
    l S [] ⟨fun _ h => h, by simp, fun _ h => (by cases h), by simpa using st⟩ (fun S1 acc hI => by
      obtain ⟨_, hl, hq, st1⟩ := hI
      have hl : acc.length = l.length := by simpa using hl
      exact h acc S1 hl hq (by rw [← hl]; exact st1))
  · exact key.mono (fun l S1 q => q) fun _ _ q => q
  · obtain ⟨hm, hl, hq, st1⟩ := hI
    rw [List.length_cons] at hl
    obtain ⟨env1, e1, he1⟩ := he d (hm d (List.mem_cons_self ..)) S1 acc.length (by omega) st1
    refine ⟨env1, e1, ?_⟩
    refine o_yes (br_t ?_)
    refine he1.mono (fun v S2 q => ?_) fun _ _ q => q
    obtain ⟨q1, q2, st2⟩ := q
    refine o_frz q2 ⟨fun x hx => hm x (List.mem_cons_of_mem _ hx), ?_, ?_, ?_⟩
    · rw [List.length_append, List.length_singleton]
      omega
    · intro x hx
      rcases List.mem_append.mp hx with hx | hx
      · exact hq x hx
      · rw [List.mem_singleton.mp hx]
        exact q1
    · rw [List.length_append, List.length_singleton]
      exact st2
theorem rangeL_len' : ∀ (k : Nat) (lo : Int), (rangeL lo k).length = k
  | 0, _ => rfl
  | k + 1, lo => by
    show (rangeL (lo + 1) k).length + 1 = k + 1
    rw [rangeL_len' k]
theorem o_tupL {l : List D} (h : P (.tup l) S) : OKR (tupleM [.lst l] S) P E := h
end

section
variable {S S0 : Sto} {P : D → Sto → Prop} {E : D → Sto → Prop} {n : Nat} {m : Int}
theorem table_by_ok {M i : Int} (h0 : 2 ≤ M) (h1 : M ≤ 6) (hi : i = 0 ∨ i = 1 ∨ i = 2) (st : StE S0 S n m) (hm : m ≤ 800000) (h : ∀ l S1, l.length = M.toNat → tableB M.toNat (.tup l) = true → Wf 2 6 (.tup l) → StE S0 S1 n (m + 36) → P (.tup l) S1) : OKR (fL_table_by [.ref n, .int M, .int i] S) P E := by
  have fin : ∀ r S1, r.length = M.toNat → (∀ x ∈ r, Wf 1 6 x ∧ rowB M.toNat x = true) → StE S0 S1 n (m + 36) → P (.tup r) (S1.take S.length) := fun r S1 hl hr st1 => by
    have l4 : S1.length = S.length := by
      have := st1.len
      have := st.len
      omega
    rw [List.take_of_length_le (by omega)]
    refine h _ _ hl ?_ (Wf.tup (by omega) fun x hx => (hr x hx).1) st1
    show (decide (r.length = M.toNat) && r.all (rowB M.toNat)) = true
    rw [decide_eq_true hl, Bool.true_and, List.all_eq_true]
    exact fun x hx => (hr x hx).2
  have hMM : (M.toNat : Int) = M := by omega
  have row : ∀ r : List D, r.length = M.toNat → (∀ x ∈ r, Wf 0 6 x ∧ numB x 0 ((M.toNat : Int) - 1) = true) → Wf 1 6 (.tup r) ∧ rowB M.toNat (.tup r) = true := fun r hl hr => by
    refine ⟨Wf.tup (by omega) fun x hx => (hr x hx).1, ?_⟩
    show (decide (r.length = M.toNat) && r.all fun d => numB d 0 ((M.toNat : Int) - 1)) = true
    rw [decide_eq_true hl, Bool.true_and, List.all_eq_true]
    exact fun x hx => (hr x hx).2
  have wi0 : ∀ x : Int, 0 ≤ x → x < 100 → Wf 0 6 (.int x) := fun x x0 x1 => Wf.int (nb_sm (Nat.lt_of_lt_of_le (show x.natAbs < 10 ^ 2 by omega) (Nat.pow_le_pow_right (by decide) (by decide))))
  have wi : ∀ x : Int, 0 ≤ x → x < M → Wf 0 6 (.int x) ∧ numB (.int x) 0 ((M.toNat : Int) - 1) = true := fun x x0 x1 => by
    refine ⟨wi0 x x0 (by omega), ?_⟩
    show (decide (0 ≤ x) && decide (x ≤ (M.toNat : Int) - 1)) = true
    rw [decide_eq_true x0, decide_eq_true (show x ≤ (M.toNat : Int) - 1 by omega)]
    rfl
  have bl : (rangeL 0 M.toNat).length ≤ LINE := by
    rw [rangeL_len']
    exact Nat.le_trans (show M.toNat ≤ 6 by omega) (Nat.le_of_ble_eq_true rfl)
  refine o_fn rfl ?_
  unfold bL_table_by bL_table_by_e1 bL_table_by_e3 bL_table_by_e5
  rcases hi with rfl | rfl | rfl
  · walk_at "sms"
    refine ⟨bl, ?_⟩
    refine lc_all (c := 0) (Q := fun d => Wf 1 6 d ∧ rowB M.toNat d = true) st (fun d hd S1 j hj st1 => ?_) fun r S1 hl hr st1 => ?_
    · obtain ⟨x, rfl, x0, x1⟩ := rangeL_mem _ _ d hd
      refine ⟨_, rfl, ?_⟩
      walk_at "sms"
      refine ⟨bl, ?_⟩
      refine lc_all (c := 0) (Q := fun d => Wf 0 6 d ∧ numB d 0 ((M.toNat : Int) - 1) = true) (m := m) (by simpa using st1) (fun d hd S2 j2 hj2 st2 => ?_) fun r2 S2 hl2 hr2 st2 => ?_
      · obtain ⟨y, rfl, y0, y1⟩ := rangeL_mem _ _ d hd
        refine ⟨_, rfl, ?_⟩
        unfold bL_table_by_e0
        walk_at "sms"
        refine o_modB (by omega) fun z z0 z1 => ?_
        exact ⟨wi _ z0 z1, rfl, by simpa using st2⟩
      · walk_at "sms"
        refine o_tupL ?_
        exact ⟨row _ (by rw [hl2, rangeL_len']) hr2, rfl, by simpa using st2⟩
    · walk_at "sms"
      refine o_tupL ?_
      refine o_fin rfl ?_
      exact fin _ _ (by rw [hl, rangeL_len']) hr (st1.up (by omega))
  · walk_at "sms"
    refine ⟨bl, ?_⟩
    refine lc_all (c := 0) (Q := fun d => Wf 1 6 d ∧ rowB M.toNat d = true) st (fun d hd S1 j hj st1 => ?_) fun r S1 hl hr st1 => ?_
    · obtain ⟨x, rfl, x0, x1⟩ := rangeL_mem _ _ d hd
      refine ⟨_, rfl, ?_⟩
      walk_at "sms"
      refine ⟨bl, ?_⟩
      refine lc_all (c := 0) (Q := fun d => Wf 0 6 d ∧ numB d 0 ((M.toNat : Int) - 1) = true) (m := m) (by simpa using st1) (fun d hd S2 j2 hj2 st2 => ?_) fun r2 S2 hl2 hr2 st2 => ?_
      · obtain ⟨y, rfl, y0, y1⟩ := rangeL_mem _ _ d hd
        refine ⟨_, rfl, ?_⟩
        unfold bL_table_by_e2
        walk_at "sms"
        refine o_modB (by omega) fun z z0 z1 => ?_
        exact ⟨wi _ z0 z1, rfl, by simpa using st2⟩
      · walk_at "sms"
        refine o_tupL ?_
        exact ⟨row _ (by rw [hl2, rangeL_len']) hr2, rfl, by simpa using st2⟩
    · walk_at "sms"
      refine o_tupL ?_
      refine o_fin rfl ?_
      exact fin _ _ (by rw [hl, rangeL_len']) hr (st1.up (by omega))
  · walk_at "sms"
    refine ⟨bl, ?_⟩
    refine lc_all (c := 6) (Q := fun d => Wf 1 6 d ∧ rowB M.toNat d = true) st (fun d hd S1 j hj st1 => ?_) fun r S1 hl hr st1 => ?_
    · rw [rangeL_len'] at hj
      obtain ⟨x, rfl, x0, x1⟩ := rangeL_mem _ _ d hd
      refine ⟨_, rfl, ?_⟩
      walk_at "sms"
      refine ⟨bl, ?_⟩
      refine lc_all (c := 1) (Q := fun d => Wf 0 6 d ∧ numB d 0 ((M.toNat : Int) - 1) = true) st1 (fun d hd S2 j2 hj2 st2 => ?_) fun r2 S2 hl2 hr2 st2 => ?_
      · rw [rangeL_len'] at hj2
        obtain ⟨y, rfl, y0, y1⟩ := rangeL_mem _ _ d hd
        refine ⟨_, rfl, ?_⟩
        unfold bL_table_by_e4
        walk_at "sms"
        refine take_ok st2 (by omega) (by omega) (by omega) fun v S3 v0 v1 st3 => ?_
        exact ⟨wi _ v0 v1, rfl, st3.up (by omega)⟩
      · walk_at "sms"
        refine o_tupL ?_
        rw [rangeL_len'] at st2
        exact ⟨row _ (by rw [hl2, rangeL_len']) hr2, rfl, st2.up (by omega)⟩
    · walk_at "sms"
      refine o_tupL ?_
      refine o_fin rfl ?_
      rw [rangeL_len'] at st1
      exact fin _ _ (by rw [hl, rangeL_len']) hr (st1.up (by omega))
end
section
variable {S S0 : Sto} {P : D → Sto → Prop} {E : D → Sto → Prop} {n : Nat} {m : Int}
theorem kind_by_ok (st : StE S0 S n m) (hm : m ≤ 700000) (h : ∀ d S1, kindB d = true → Wf 3 6 d → StE S0 S1 n (m + 100) → P d S1) : OKR (fL_kind_by [.ref n] S) P E := by
  have fin : ∀ d S1, kindB d = true → Wf 3 6 d → StE S0 S1 n (m + 100) → P d (S1.take S.length) := fun d S1 hc hd st1 => by
    have l4 : S1.length = S.length := by
      have := st1.len
      have := st.len
      omega
    rw [List.take_of_length_le (by omega)]
    exact h _ _ hc hd st1
  have sm : ∀ x : Int, 0 ≤ x → x < 100 → NB 500 x := fun x x0 x1 => nb_sm (Nat.lt_of_lt_of_le (show x.natAbs < 10 ^ 2 by omega) (Nat.pow_le_pow_right (by decide) (by decide)))
  have pair : ∀ (w : List Nat) (x : Int), cp w = true → 0 ≤ x → x < 100 → Wf 3 6 (.tup [.str w, .int x]) := fun w x hw x0 x1 => by simp [Wf, hw, sm x x0 x1]
  have triple : ∀ (w : List Nat) (a b : D), cp w = true → Wf 2 6 a → Wf 2 6 b → Wf 3 6 (.tup [.str w, a, b]) := fun w a b hw ha hb => Wf.tup (by simp only [List.length_cons, List.length_nil]; decide) fun x hx => by
    simp only [List.mem_cons, List.not_mem_nil, or_false] at hx
    rcases hx with rfl | rfl | rfl
    · simp [Wf, hw]
    · exact ha
    · exact hb
  refine o_fn rfl ?_
  unfold bL_kind_by
  walk_at "sms"
  refine take_ok st (by omega) (by decide) (by decide) fun v S1 v0 v1 st1 => ?_
  walk_at "sms"
  refine o_ixB v0 v1 fun d hd => ?_
  simp only [List.mem_cons, List.not_mem_nil, or_false] at hd
  rcases hd with rfl | rfl | rfl | rfl | rfl | rfl | rfl
  · walk_at "sms"
    exact fin _ _ (by decide +kernel) (by simp [Wf]; decide) (st1.up (by omega))
  · walk_at "sms"
    exact fin _ _ (by decide +kernel) (by simp [Wf]; decide) (st1.up (by omega))
  · walk_at "sms"
    refine o_addL (Nat.le_of_ble_eq_true rfl) ?_
    dsimp only [List.cons_append, List.nil_append]
    walk_at "sms"
    refine take_ok st1 (by omega) (by decide) (by decide) fun u S2 u0 u1 st2 => ?_
    walk_at "sms"
    refine o_ixB u0 u1 fun d hd => ?_
    have hi : ∃ x, d = .int x ∧ 0 ≤ x ∧ x < 100 ∧ kindB (.tup [.str wRoot, d]) = true := by
      simp only [List.mem_cons, List.not_mem_nil, or_false] at hd
      rcases hd with rfl | rfl | rfl | rfl | rfl | rfl | rfl | rfl | rfl | rfl | rfl | rfl | rfl | rfl | rfl | rfl | rfl | rfl | rfl | rfl | rfl | rfl | rfl | rfl | rfl | rfl | rfl | rfl | rfl | rfl | rfl | rfl | rfl | rfl | rfl | rfl <;> exact ⟨_, rfl, by decide, by decide, by decide +kernel⟩
    obtain ⟨x, rfl, x0, x1, hc⟩ := hi
    walk_at "sms"
    exact fin _ _ hc (pair _ _ (by decide) (by omega) (by omega)) (st2.up (by omega))
  · walk_at "sms"
    refine OKR.of_eq (v := .tup [.int 2, .int 11]) (by with_unfolding_all rfl) ?_
    walk_at "sms"
    refine take_ok st1 (by omega) (by decide) (by decide) fun u S2 u0 u1 st2 => ?_
    walk_at "sms"
    refine fin _ _ ?_ (pair _ _ (by decide) (by omega) (by omega)) (st2.up (by omega))
    show (decide (2 ≤ 2 + u) && decide (2 + u ≤ 12)) = true
    rw [decide_eq_true (show 2 ≤ 2 + u by omega), decide_eq_true (show 2 + u ≤ 12 by omega)]
    rfl
  · walk_at "sms"
    refine OKR.of_eq (v := .tup [.int 1, .int 3]) (by with_unfolding_all rfl) ?_
    walk_at "sms"
    refine take_ok st1 (by omega) (by decide) (by decide) fun u S2 u0 u1 st2 => ?_
    walk_at "sms"
    refine fin _ _ ?_ (pair _ _ (by decide) (by omega) (by omega)) (st2.up (by omega))
    show (decide (1 ≤ 1 + u) && decide (1 + u ≤ 3)) = true
    rw [decide_eq_true (show 1 ≤ 1 + u by omega), decide_eq_true (show 1 + u ≤ 3 by omega)]
    rfl
  · walk_at "sms"
    refine OKR.of_eq (v := .tup [.int 0, .int 7]) (by with_unfolding_all rfl) ?_
    walk_at "sms"
    refine take_ok st1 (by omega) (by decide) (by decide) fun u S2 u0 u1 st2 => ?_
    walk_at "sms"
    refine fin _ _ ?_ (pair _ _ (by decide) (by omega) (by omega)) (st2.up (by omega))
    show (decide (0 ≤ 0 + u) && decide (0 + u ≤ 6)) = true
    rw [decide_eq_true (show 0 ≤ 0 + u by omega), decide_eq_true (show 0 + u ≤ 6 by omega)]
    rfl
  · walk_at "sms"
    refine take_ok st1 (by omega) (by decide) (by decide) fun u S2 u0 u1 st2 => ?_
    walk_at "sms"
    refine take_ok st2 (by omega) (by decide) (by decide) fun i S3 i0 i1 st3 => ?_
    walk_at "sms"
    refine take_ok st3 (by omega) (by decide) (by decide) fun j S4 j0 j1 st4 => ?_
    walk_at "sms"
    refine table_by_ok (by omega) (by omega) (by omega) st4 (by omega) fun a S5 la ta ha st5 => ?_
    walk_at "sms"
    refine table_by_ok (by omega) (by omega) (by omega) st5 (by omega) fun b S6 lb tb hb st6 => ?_
    have hc : kindB (.tup [.str wOwn, .tup a, .tup b]) = true := by
      show (decide (2 ≤ a.length) && decide (a.length ≤ 6) && tableB a.length (.tup a) && tableB a.length (.tup b)) = true
      rw [la, ta, tb, decide_eq_true (by omega), decide_eq_true (by omega)]
      rfl
    walk_at "sms"
    first
      | exact fin _ _ hc (triple _ _ _ (by decide) ha hb) (st6.up (by omega))
      | (refine o_frz hb.nr ?_
         walk_at "sms"
         exact fin _ _ hc (triple _ _ _ (by decide) ha hb) (st6.up (by omega)))
      | (refine o_frz ha.nr ?_
         walk_at "sms"
         refine o_frz hb.nr ?_
         walk_at "sms"
         exact fin _ _ hc (triple _ _ _ (by decide) ha hb) (st6.up (by omega)))
end

def intB : D → Bool
  | .int _ => true
  | _ => false
def fracB : D → Bool
  | .tup [.int a, .int b] => decide (0 < b) && decide ((Int.gcd a b : Int) = 1)
  | _ => false
def lessB : D → D → Bool
  | .tup [.int a, .int b], .tup [.int c, .int d] => decide (c * b < a * d)
  | _, _ => false
def aboutB (f : Int) : D → Bool
  | .tup [.int a, .int b] => (decide (-400 ≤ b) && decide (b ≤ 400)) && (if a = 0 then decide (b = 0) else !decide (a.fmod 10 = 0) && decide (a.natAbs < 10 ^ f.toNat))
  | _ => false
def twoB (g : D → D → Bool) : D → Bool
  | .tup [a, b] => fracB a && (fracB b && g a b)
  | _ => false
def worthB : D → D → Bool
  | .tup [.str w], d => if w = wWhole then intB d else fracB d
  | .tup [.str w, .int x], d => if w = wRest then numB d 0 (x - 1) else if w = wAbout then aboutB x d else if w = wRoot then twoB (fun _ _ => true) d else twoB (fun a b => !lessB a b) d
  | .tup [.str _, .tup u, _], d => numB d 0 ((u.length : Int) - 1)
  | _, _ => false
theorem frac_cases {d : D} (h : fracB d = true) : ∃ a b : Int, d = .tup [.int a, .int b] ∧ 0 < b := by
  unfold fracB at h
  split at h
  · rw [Bool.and_eq_true, decide_eq_true_iff] at h
    exact ⟨_, _, rfl, h.1⟩
  · cases h
section
variable {S S0 : Sto} {P : D → Sto → Prop} {E : D → Sto → Prop} {n k W : Nat} {m : Int}
theorem whole_any {d : D} (hd : Wf k W d) (h : P (.bl (intB d)) S) : OKR (fis_whole [d] S) P E := by
  refine whole_ok (hd.ty S) ?_ h
  cases d <;> rfl
theorem frac_any {d : D} (hd : Wf k W d) (h : P (.bl (fracB d)) S) : OKR (fis_fraction [d] S) P E := by
  refine o_fn rfl ?_
  unfold bis_fraction
  walk_at "sms"
  refine o_isiT (hd.ty S) ?_
  walk_at "sms"
  cases ht : tyIs (ty0 d) .tuple with
  | false =>
    have e : fracB d = false := by cases d <;> first | rfl | cases ht
    rw [e] at h
    walk_at "sms"
    exact h
  | true =>
    obtain ⟨l, rfl⟩ := ty_tup ht
    obtain ⟨j, rfl, hl, hr⟩ := hd.of_tup
    walk_at "sms"
    match l, hr, h with
    | [], _, h =>
      walk_at "sms"
      exact h
    | [x], _, h =>
      have e : fracB (.tup [x]) = false := by cases x <;> rfl
      rw [e] at h
      walk_at "sms"
      exact h
    | a :: b :: c :: r, _, h =>
      have e : fracB (.tup (a :: b :: c :: r)) = false := by cases a <;> first | rfl | (cases b <;> rfl)
      rw [e] at h
      first
        | (walk_at "sms"; exact h)
        | (refine br_ff (decide_eq_false ?_) ?_
           · simp only [List.length_cons]
             omega
           · walk_at "sms"
             exact h)
    | [a, b], hr, h =>
      have ha := hr a (List.mem_cons_self ..)
      have hb := hr b (List.mem_cons_of_mem _ (List.mem_cons_self ..))
      walk_at "sms"
      refine whole_any ha ?_
      walk_at "sms"
      cases a with
      | int x =>
        walk_at "sms"
        refine whole_any hb ?_
        walk_at "sms"
        cases b with
        | int y =>
          have e : fracB (.tup [.int x, .int y]) = (decide (0 < y) && decide ((Int.gcd x y : Int) = 1)) := rfl
          rw [e] at h
          walk_at "sms"
          refine br_dec (fun c => ?_) fun c => ?_
          · rw [decide_eq_true (show 0 < y by omega), Bool.true_and] at h
            walk_at "sms"
            refine common_part_ok (Nat.lt_of_lt_of_le hb.of_int (Nat.pow_le_pow_right (by decide) (by decide))) ?_
            walk_at "sms"
            exact h
          · rw [decide_eq_false (show ¬ 0 < y by omega), Bool.false_and] at h
            walk_at "sms"
            exact h
        | _ =>
          walk_at "sms"
          exact h
      | _ =>
        walk_at "sms"
        exact h
end

section
variable {S S0 : Sto} {P : D → Sto → Prop} {E : D → Sto → Prop} {n k W k2 W2 : Nat} {m : Int}
theorem pair_only {w : List Nat} {x : Int} {d : D} (hw : w = wAbout ∨ w = wRoot ∨ w = wSure) (h : ∀ a b, d ≠ .tup [a, b]) : worthB (.tup [.str w, .int x]) d = false := by
  have h1 : aboutB x d = false := by
    cases d with
    | tup l =>
      match l, h with
      | [], _ => rfl
      | [a], _ => cases a <;> rfl
      | [a, b], h => exact absurd rfl (h a b)
      | a :: b :: c :: r, _ => cases a <;> first | rfl | (cases b <;> rfl)
    | _ => rfl
  have h2 : ∀ g, twoB g d = false := by
    intro g
    cases d with
    | tup l =>
      match l, h with
      | [], _ => rfl
      | [a], _ => rfl
      | [a, b], h => exact absurd rfl (h a b)
      | a :: b :: c :: r, _ => rfl
    | _ => rfl
  rcases hw with rfl | rfl | rfl
  · exact h1
  · exact h2 _
  · exact h2 _
theorem is_about_ok {f : Int} {a b : D} (f0 : f = 1 ∨ f = 2 ∨ f = 3) (ha : Wf k W a) (hb : Wf k W b) (h : P (.bl (aboutB f (.tup [a, b]))) S) : OKR (fis_about [.int f, .tup [a, b]] S) P E := by
  refine o_fn rfl ?_
  unfold bis_about
  rw [← bis_about_s2.eq_def]
  walk_at "sms"
  refine whole_any ha ?_
  walk_at "sms"
  cases a with
  | int u =>
    walk_at "sms"
    refine among_any hb ?_
    walk_at "sms"
    cases b with
    | int v =>
      have en : numB (.int v) (0 - 400) 400 = (decide (-400 ≤ v) && decide (v ≤ 400)) := rfl
      have e : aboutB f (.tup [.int u, .int v]) = ((decide (-400 ≤ v) && decide (v ≤ 400)) && (if u = 0 then decide (v = 0) else !decide (u.fmod 10 = 0) && decide (u.natAbs < 10 ^ f.toNat))) := rfl
      rw [e, ← en] at h
      cases c : numB (.int v) (0 - 400) 400 with
      | false =>
        rw [c, Bool.false_and] at h
        walk_at "sms"
        exact h
      | true =>
        rw [c, Bool.true_and] at h
        walk_at "sms"
        refine br_dec (fun c2 => ?_) fun c2 => ?_
        · rw [if_pos c2] at h
          walk_at "sms"
          exact h
        · rw [if_neg c2] at h
          walk_at "sms"
          unfold bis_about_s2
          walk_at "sms"
          refine o_mod (cMod_ne (by decide)) ?_
          walk_at "sms"
          refine br_dec (fun c3 => ?_) fun c3 => ?_
          · rw [decide_eq_true c3] at h
            walk_at "sms"
            exact h
          · rw [decide_eq_false c3, Bool.not_false, Bool.true_and] at h
            walk_at "sms"
            rcases f0 with rfl | rfl | rfl
            · walk_at "sms"
              rw [show decide (((u.natAbs : Nat) : Int) < 10) = decide (u.natAbs < 10 ^ Int.toNat 1) from decide_eq_decide.mpr (by rw [show 10 ^ Int.toNat 1 = 10 from rfl]; omega)]
              exact h
            · walk_at "sms"
              rw [show decide (((u.natAbs : Nat) : Int) < 100) = decide (u.natAbs < 10 ^ Int.toNat 2) from decide_eq_decide.mpr (by rw [show 10 ^ Int.toNat 2 = 100 from rfl]; omega)]
              exact h
            · walk_at "sms"
              rw [show decide (((u.natAbs : Nat) : Int) < 1000) = decide (u.natAbs < 10 ^ Int.toNat 3) from decide_eq_decide.mpr (by rw [show 10 ^ Int.toNat 3 = 1000 from rfl]; omega)]
              exact h
    | _ =>
      walk_at "sms"
      exact h
  | _ =>
    walk_at "sms"
    exact h
theorem is_less_ok {a b c d : Int} (ha : NB 500 a) (hb : NB 500 b) (hc : NB 500 c) (hd : NB 500 d) (h : P (.bl (decide (a * d < c * b))) S) : OKR (fis_less [.tup [.int a, .int b], .tup [.int c, .int d]] S) P E := by
  refine o_fn rfl ?_
  unfold bis_less
  walk_at "sms"
  refine o_mul (cMulT 500 500 ha hd (by decide)) ?_
  walk_at "sms"
  refine o_mul (cMulT 500 500 hc hb (by decide)) ?_
  walk_at "sms"
  exact h
theorem frac_int {a : D} (ha : Wf k W a) (h : fracB a = true) : ∃ x y : Int, a = .tup [.int x, .int y] ∧ NB 500 x ∧ NB 500 y := by
  obtain ⟨x, y, rfl, _⟩ := frac_cases h
  obtain ⟨j, rfl, _, hr⟩ := ha.of_tup
  exact ⟨x, y, rfl, (hr _ (List.mem_cons_self ..)).of_int, (hr _ (List.mem_cons_of_mem _ (List.mem_cons_self ..))).of_int⟩
theorem of_tail {w : List Nat} {x : Int} {d : D} {N B C : Env → Sto → Prop} {T : D → Sto → Prop} {X : D → Env → Sto → Prop} (hw : (w = wAbout ∧ (x = 1 ∨ x = 2 ∨ x = 3)) ∨ w = wRoot ∨ w = wSure) (hd : Wf k W d) (hT : T (.bl (worthB (.tup [.str w, .int x]) d)) S) :
    OKS (bis_of_s3 [some (.tup [.str w, .int x]), some d] S) N B C T X := by
  have hw2 : w = wAbout ∨ w = wRoot ∨ w = wSure := hw.imp (·.1) id
  unfold bis_of_s3
  rw [← bis_of_s4.eq_def]
  walk_at "sms"
  refine o_isiT (hd.ty S) ?_
  walk_at "sms"
  cases ht : tyIs (ty0 d) .tuple with
  | false =>
    rw [pair_only hw2 (fun a b e => by subst e; cases ht)] at hT
    walk_at "sms"
    exact hT
  | true =>
    obtain ⟨l, rfl⟩ := ty_tup ht
    obtain ⟨j, rfl, hl, hr⟩ := hd.of_tup
    walk_at "sms"
    match l, hr, hT with
    | [], _, hT =>
      rw [pair_only hw2 (fun a b e => by injection e with e; cases e)] at hT
      walk_at "sms"
      exact hT
    | [y], _, hT =>
      rw [pair_only hw2 (fun a b e => by injection e with e; cases e)] at hT
      walk_at "sms"
      exact hT
    | a :: b :: c :: r, _, hT =>
      rw [pair_only hw2 (fun a b e => by injection e with e; cases e)] at hT
      first
        | (walk_at "sms"; exact hT)
        | (refine br_ndec (fun c => ?_) fun c => ?_
           · simp only [List.length_cons] at c
             omega
           · walk_at "sms"
             exact hT)
    | [a, b], hr, hT =>
      have ha := hr a (List.mem_cons_self ..)
      have hb := hr b (List.mem_cons_of_mem _ (List.mem_cons_self ..))
      walk_at "sms"
      unfold bis_of_s4
      rcases hw with ⟨rfl, hx⟩ | hw
      · walk_at "sms"
        refine is_about_ok hx ha hb ?_
        walk_at "sms"
        exact hT
      · have e3 : worthB (.tup [.str w, .int x]) (.tup [a, b]) = (fracB a && (fracB b && (if w = wRoot then true else !lessB a b))) := by
          rcases hw with rfl | rfl <;> rfl
        rw [e3] at hT
        have na : w ≠ wAbout := by rcases hw with rfl | rfl <;> decide
        walk_at "sms"
        refine br_ff (decide_eq_false na) ?_
        walk_at "sms"
        refine frac_any ha ?_
        walk_at "sms"
        cases ca : fracB a with
        | false =>
          rw [ca, Bool.false_and] at hT
          walk_at "sms"
          exact hT
        | true =>
          rw [ca, Bool.true_and] at hT
          walk_at "sms"
          refine frac_any hb ?_
          walk_at "sms"
          cases cb : fracB b with
          | false =>
            rw [cb, Bool.false_and] at hT
            walk_at "sms"
            exact hT
          | true =>
            rw [cb, Bool.true_and] at hT
            obtain ⟨a0, a1, rfl, na0, na1⟩ := frac_int ha ca
            obtain ⟨b0, b1, rfl, nb0, nb1⟩ := frac_int hb cb
            walk_at "sms"
            rcases hw with rfl | rfl
            · walk_at "sms"
              exact hT
            · walk_at "sms"
              refine is_less_ok nb0 nb1 na0 na1 ?_
              walk_at "sms"
              exact hT
theorem is_of_ok {kd d : D} (hk : Wf k W kd) (c : kindB kd = true) (hd : Wf k2 W2 d) (h : P (.bl (worthB kd d)) S) : OKR (fis_of [kd, d] S) P E := by
  refine o_fn rfl ?_
  unfold bis_of
  rw [← bis_of_s3.eq_def]
  have kc := kind_cases c
  cases kc with
  | whole =>
    walk_at "sms"
    refine whole_any hd ?_
    walk_at "sms"
    exact h
  | share =>
    walk_at "sms"
    refine frac_any hd ?_
    walk_at "sms"
    exact h
  | rest x x0 x1 =>
    walk_at "sms"
    refine is_finite_ok hk ?_
    rw [if_pos c]
    walk_at "sms"
    refine many_ok hk ?_
    rw [if_pos c, if_pos (show finB (.tup [.str wRest, .int x]) = true from rfl), show cntB (.tup [.str wRest, .int x]) = .int x from rfl]
    walk_at "sms"
    refine among_any hd ?_
    walk_at "sms"
    exact h
  | own u t u0 u1 =>
    walk_at "sms"
    refine is_finite_ok hk ?_
    rw [if_pos c]
    walk_at "sms"
    refine many_ok hk ?_
    rw [if_pos c, if_pos (show finB (.tup [.str wOwn, .tup u, t]) = true from rfl), show cntB (.tup [.str wOwn, .tup u, t]) = .int u.length from rfl]
    walk_at "sms"
    refine among_any hd ?_
    walk_at "sms"
    exact h
  | about x x0 x1 =>
    walk_at "sms"
    refine is_finite_ok hk ?_
    rw [if_pos c]
    walk_at "sms"
    refine of_tail (.inl ⟨rfl, by omega⟩) hd ?_
    walk_at "sms"
    exact h
  | root x x0 x1 =>
    walk_at "sms"
    refine is_finite_ok hk ?_
    rw [if_pos c]
    walk_at "sms"
    refine of_tail (.inr (.inl rfl)) hd ?_
    walk_at "sms"
    exact h
  | sure x x0 x1 =>
    walk_at "sms"
    refine is_finite_ok hk ?_
    rw [if_pos c]
    walk_at "sms"
    refine of_tail (.inr (.inr rfl)) hd ?_
    walk_at "sms"
    exact h
theorem is_worth_ok {kd d : D} (hk : Wf k W kd) (hd : Wf k2 W2 d) (h : if kindB kd = true then P (.bl (worthB kd d)) S else E (.exc k_BadKind []) S) : OKR (fis_worth [kd, d] S) P E := by
  refine o_fn rfl ?_
  unfold bis_worth
  walk_at "sms"
  refine need_kind_ok hk ?_
  cases c : kindB kd with
  | false =>
    rw [if_neg (by rw [c]; decide)] at h
    rw [if_neg (by decide), take_all]
    exact h
  | true =>
    rw [if_pos c] at h
    rw [if_pos rfl]
    walk_at "sms"
    refine is_of_ok hk c hd ?_
    walk_at "sms"
    exact h
theorem need_worth_ok {kd d : D} (hk : Wf k W kd) (hd : Wf k2 W2 d) (h : if kindB kd = true then (if worthB kd d = true then P .non S else E (.exc k_BadWorth []) S) else E (.exc k_BadKind []) S) : OKR (fneed_worth [kd, d] S) P E := by
  refine o_fn rfl ?_
  unfold bneed_worth
  walk_at "sms"
  refine is_worth_ok hk hd ?_
  cases c : kindB kd with
  | false =>
    rw [if_neg (by rw [c]; decide)] at h
    rw [if_neg (by decide), take_all]
    exact h
  | true =>
    rw [if_pos c] at h
    rw [if_pos rfl]
    walk_at "sms"
    cases c2 : worthB kd d with
    | false =>
      rw [if_neg (by rw [c2]; decide)] at h
      walk_at "sms"
      rw [take_all]
      exact h
    | true =>
      rw [if_pos c2] at h
      walk_at "sms"
      exact h
end

abbrev toD (p : Int × Int) : D := .tup [.int p.1, .int p.2]
def shRow (t b : Nat) : List (Int × Int) := if Int.gcd ((t : Int) - b) b = 1 then (if 0 < (t : Int) - b then [((t : Int) - b, b), (0 - ((t : Int) - b), b)] else [((t : Int) - b, b)]) else []
def shUp (t : Nat) : Nat → List (Int × Int)
  | 0 => []
  | k + 1 => shUp t k ++ shRow t (k + 1)
def shL (t : Nat) : List (Int × Int) := shUp t t
def off : Nat → Nat
  | 0 => 0
  | t + 1 => off t + (shL t).length
theorem off_41 : 400 < off 41 := by decide +kernel
theorem shRow_len (t b : Nat) : (shRow t b).length ≤ 2 := by
  unfold shRow
  split
  · split <;> simp
  · simp
theorem shUp_len (t : Nat) : ∀ k, (shUp t k).length ≤ 2 * k
  | 0 => Nat.le_refl _
  | k + 1 => by
    have h1 := shUp_len t k
    have h2 := shRow_len t (k + 1)
    rw [shUp, List.length_append]
    omega
theorem shL_len (t : Nat) : (shL t).length ≤ 2 * t := shUp_len t t
section
variable {S S0 : Sto} {P : D → Sto → Prop} {E : D → Sto → Prop} {n : Nat} {m : Int}
theorem at_app {o : Ob} : (S ++ [o])[S.length]? = some o := by
  rw [List.getElem?_append_right (Nat.le_refl _), Nat.sub_self]
  rfl
theorem set_app {o q : Ob} : (S ++ [o]).set S.length q = S ++ [q] := by
  rw [List.set_append_right _ _ (Nat.le_refl _), Nat.sub_self]
  rfl
theorem getE {l : List D} : getL (.ref S.length) (S ++ [Ob.lst false l]) = some l := getL_ref at_app
theorem o_appE {l : List D} {v : D} (hv : nr v = true) (hl : l.length < LINE) (h : P .non (S ++ [Ob.lst false (l ++ [v])])) : OKR (appM (.ref S.length) [v] (S ++ [Ob.lst false l])) P E := by
  refine o_app at_app hv hl ?_
  rw [set_app]
  exact h
theorem o_finE {l : List D} (h : P (.lst l) S) : OKR (if true = true then fin S.length (.ref S.length) (S ++ [Ob.lst false l]) else .ok (.ref S.length) (S ++ [Ob.lst false l])) P E := by
  rw [if_pos rfl]
  unfold fin
  dsimp only
  rw [if_neg (Nat.lt_irrefl _), at_app]
  show P (.lst l) ((S ++ [Ob.lst false l]).take S.length)
  rw [List.take_left]
  exact h
theorem rangeL_cons {lo : Int} {k : Nat} {d : D} {r : List D} (e : d :: r = rangeL lo k) : ∃ j, k = j + 1 ∧ d = .int lo ∧ r = rangeL (lo + 1) j := by
  cases k with
  | zero => cases e
  | succ j =>
    rw [rangeL] at e
    injection e with e1 e2
    exact ⟨j, rfl, e1, e2⟩
theorem line_big {k : Nat} (h : k ≤ 100000) : k < LINE := Nat.lt_of_le_of_lt h (Nat.le_of_ble_eq_true rfl)
theorem shares_of_ok {t : Nat} (ht : t ≤ 1000) (h : P (.lst ((shL t).map toD)) S) : OKR (fshares_of [.int t] S) P E := by
  unfold fshares_of
  with_reducible refine o_fn (by with_unfolding_all rfl) ?_
  unfold bshares_of
  walk_at "sms"
  rw [show ((t : Int) + 1 - 1).toNat = t by omega]
  refine forL_ok (fun l env S1 => ∃ k, k ≤ t ∧ l = rangeL ((k : Int) + 1) (t - k) ∧ S1 = S ++ [Ob.lst false ((shUp t k).map toD)] ∧ ∃ a2 a3, env = [some (.int t), some (.ref S.length), a2, a3]) (fun _ _ _ _ _ z => by cases z) ?_ ?_ _ _ _ ⟨0, Nat.zero_le _, rfl, rfl, _, _, rfl⟩
  · rintro d l env S1 ⟨k, hk, e, rfl, a2, a3, rfl⟩
    obtain ⟨j, hj, rfl, rfl⟩ := rangeL_cons e
    refine ⟨_, rfl, ?_⟩
    have g := getE (S := S) (l := (shUp t k).map toD)
    have hl := shUp_len t k
    have nx : ∀ r, shUp t (k + 1) = shUp t k ++ r → ∀ (a2 a3 : Option D), ∃ k', k' ≤ t ∧ rangeL ((k : Int) + 1 + 1) j = rangeL ((k' : Int) + 1) (t - k') ∧ S ++ [Ob.lst false ((shUp t k).map toD ++ r.map toD)] = S ++ [Ob.lst false ((shUp t k').map toD)] ∧ ∃ b2 b3, [some (D.int t), some (.ref S.length), a2, a3] = [some (.int t), some (.ref S.length), b2, b3] := fun r hr a2 a3 =>
      ⟨k + 1, by omega, by rw [show t - (k + 1) = j by omega]; rfl, by rw [hr, List.map_append], _, _, rfl⟩
    unfold bshares_of_l0
    walk_at "sms"
    refine common_part_ok (b3990 (Nat.lt_of_lt_of_le (show ((k : Int) + 1).natAbs < 10 ^ 4 by omega) (Nat.pow_le_pow_right (by decide) (by decide)))) ?_
    walk_at "sms"
    refine br_dec (fun c => ?_) fun c => ?_
    · have c1 : Int.gcd ((t : Int) - ((k + 1 : Nat) : Int)) ((k + 1 : Nat) : Int) = 1 := by
        rw [show ((k + 1 : Nat) : Int) = (k : Int) + 1 from rfl]
        omega
      walk_at "sms"
      refine o_appE rfl (line_big (by rw [List.length_map]; omega)) ?_
      have g2 := getE (S := S) (l := (shUp t k).map toD ++ [.tup [.int ((t : Int) - ((k : Int) + 1)), .int ((k : Int) + 1)]])
      walk_at "sms"
      refine br_dec (fun c2 => ?_) fun c2 => ?_
      · walk_at "sms"
        refine o_appE rfl (line_big (by rw [List.length_append, List.length_map]; simp only [List.length_cons, List.length_nil]; omega)) ?_
        rw [List.append_assoc]
        refine nx [((t : Int) - ((k : Int) + 1), (k : Int) + 1), (0 - ((t : Int) - ((k : Int) + 1)), (k : Int) + 1)] ?_ _ _
        rw [shUp, shRow, if_pos c1, if_pos (show 0 < (t : Int) - ((k + 1 : Nat) : Int) from c2)]
        rfl
      · walk_at "sms"
        refine nx [((t : Int) - ((k : Int) + 1), (k : Int) + 1)] ?_ _ _
        rw [shUp, shRow, if_pos c1, if_neg (show ¬ 0 < (t : Int) - ((k + 1 : Nat) : Int) from c2)]
        rfl
    · have c1 : ¬ Int.gcd ((t : Int) - ((k + 1 : Nat) : Int)) ((k + 1 : Nat) : Int) = 1 := by
        rw [show ((k + 1 : Nat) : Int) = (k : Int) + 1 from rfl]
        omega
      walk_at "sms"
      have := nx [] (by rw [shUp, shRow, if_neg c1]) (some (.int ((k : Int) + 1))) (some (.int ((t : Int) - ((k : Int) + 1))))
      rw [List.map_nil, List.append_nil] at this
      exact this
  · rintro env S1 ⟨k, hk, e, rfl, a2, a3, rfl⟩
    have hk2 : t - k = 0 := by
      cases q : t - k with
      | zero => rfl
      | succ j =>
        rw [q] at e
        cases e
    rw [show k = t by omega]
    have g := getE (S := S) (l := (shUp t t).map toD)
    walk_at "sms"
    exact o_finE h
def AtS (n : Nat) (d : D) : Prop := ∃ t k p, 1 ≤ t ∧ t ≤ 40 ∧ (shL t)[k]? = some p ∧ off t + k = n ∧ d = toD p
theorem fuel_sm {k : Nat} (h : k ≤ 100000) : k < FUEL := fuel_ok (b3990 (Nat.lt_of_le_of_lt h (Nat.lt_of_lt_of_le (show 100000 < 10 ^ 6 by decide) (Nat.pow_le_pow_right (by decide) (by decide)))))
theorem share_at_ok {n : Nat} (hn : n ≤ 400) (h : ∀ d, AtS n d → P d S) : OKR (fshare_at [.int n] S) P E := by
  have o41 := off_41
  unfold fshare_at
  with_reducible refine o_fn (by with_unfolding_all rfl) ?_
  unfold bshare_at
  walk_at "sms"
  refine shares_of_ok (t := 1) (by decide) ?_
  walk_at "sms"
  refine o_while (fun k env S1 => S1 = S ∧ ∃ t x : Nat, 1 ≤ t ∧ t ≤ 40 ∧ x + off t = n ∧ k = 41 - t ∧ env = [some (.int x), some (.int t), some (.lst ((shL t).map toD))]) ?_ 40 _ _ (fuel_sm (by decide)) ⟨rfl, 1, n, by decide, by decide, rfl, rfl, rfl⟩
  rintro k env S1 ⟨rfl, t, x, t0, t1, hx, rfl, rfl⟩
  unfold bshare_at_t0 bshare_at_w1
  have hl := shL_len t
  walk_at "sms"
  rw [List.length_map]
  refine br_dec (fun c => ?_) fun c => ?_
  · walk_at "sms"
    have ho : off (t + 1) = off t + (shL t).length := rfl
    have t2 : t + 1 ≤ 40 := by
      by_cases z : t = 40
      · subst z
        have : off 41 = off 40 + (shL 40).length := rfl
        omega
      · omega
    rw [show (t : Int) + 1 = ((t + 1 : Nat) : Int) from rfl]
    with_reducible refine shares_of_ok (t := t + 1) (by omega) ?_
    walk_at "sms"
    refine ⟨41 - (t + 1), by omega, rfl, t + 1, x - (shL t).length, by omega, t2, by omega, rfl, ?_⟩
    rw [List.length_map, show ((x - (shL t).length : Nat) : Int) = (x : Int) - ((shL t).length : Nat) by omega]
    rfl
  · walk_at "sms"
    have hx2 : x < (shL t).length := by omega
    refine o_ixl (atI_nat (j := x) (v := toD (shL t)[x]) (by rw [List.getElem?_map, List.getElem?_eq_getElem hx2]; rfl)) ?_
    refine o_finS rfl ?_
    exact h _ ⟨t, x, (shL t)[x], t0, t1, List.getElem?_eq_getElem hx2, by omega, rfl⟩
end

def sameP (p q : Int × Int) : Bool := q.1 == p.1 && (q.2 == p.2 && true)
def plS (p : Int × Int) : Nat := if 40 < p.1.natAbs + p.2.toNat then 401 else off (p.1.natAbs + p.2.toNat) + (shL (p.1.natAbs + p.2.toNat)).findIdx (sameP p)
theorem sameP_iff {p q : Int × Int} : sameP p q = true ↔ q = p := by
  unfold sameP
  rw [Bool.and_true, Bool.and_eq_true, beq_iff_eq, beq_iff_eq]
  constructor
  · rintro ⟨h1, h2⟩
    exact Prod.ext h1 h2
  · rintro rfl
    exact ⟨rfl, rfl⟩
theorem okL_toD : ∀ l : List (Int × Int), okL 59 (l.map toD) = true
  | [] => rfl
  | p :: l => by
    show (okD 59 (toD p) && okL 59 (l.map toD)) = true
    rw [okL_toD l]
    rfl
theorem findEq_toD (p : Int × Int) : ∀ (l : List (Int × Int)) (n : Nat), p ∈ l → findEq (toD p) (l.map toD) n = some (n + l.findIdx (sameP p))
  | [], _, h => by cases h
  | q :: l, n, h => by
    have e : eqV (toD q) (toD p) = sameP p q := rfl
    rw [List.map_cons, findEq, e, List.findIdx_cons]
    cases c : sameP p q with
    | true => rfl
    | false =>
      have hm : p ∈ l := by
        rcases List.mem_cons.mp h with rfl | h
        · rw [sameP_iff.mpr rfl] at c
          cases c
        · exact h
      rw [if_neg (by decide), findEq_toD p l (n + 1) hm]
      show some (n + 1 + _) = some (n + (_ + 1))
      congr 1
      omega
theorem mem_up {t : Nat} {p : Int × Int} : ∀ {k : Nat}, p ∈ shUp t k ↔ ∃ b, b < k ∧ p ∈ shRow t (b + 1)
  | 0 => by simp [shUp]
  | k + 1 => by
    rw [shUp, List.mem_append, mem_up]
    constructor
    · rintro (⟨b, h1, h2⟩ | h)
      · exact ⟨b, by omega, h2⟩
      · exact ⟨k, by omega, h⟩
    · rintro ⟨b, h1, h2⟩
      by_cases c : b = k
      · subst c
        exact .inr h2
      · exact .inl ⟨b, by omega, h2⟩
theorem gcd_abs {a b c d : Int} (h1 : a.natAbs = c.natAbs) (h2 : b.natAbs = d.natAbs) : Int.gcd a b = Int.gcd c d := by
  unfold Int.gcd
  rw [h1, h2]
theorem mem_row {t b : Nat} {p : Int × Int} (hb : b ≤ t) : p ∈ shRow t b ↔ p.2 = (b : Int) ∧ p.1.natAbs + b = t ∧ Int.gcd p.1 p.2 = 1 := by
  obtain ⟨x, y⟩ := p
  unfold shRow
  constructor
  · intro h
    split at h
    · rename_i g
      have key : ∀ z : Int, z.natAbs = ((t : Int) - b).natAbs → (x, y) = (z, (b : Int)) → y = (b : Int) ∧ x.natAbs + b = t ∧ Int.gcd x y = 1 := fun z hz e => by
        injection e with e1 e2
        subst e1
        subst e2
        exact ⟨rfl, by omega, (gcd_abs hz rfl).trans g⟩
      split at h
      · rcases List.mem_cons.mp h with e | h
        · exact key _ rfl e
        · rcases List.mem_cons.mp h with e | h
          · exact key _ (by omega) e
          · cases h
      · rcases List.mem_cons.mp h with e | h
        · exact key _ rfl e
        · cases h
    · cases h
  · rintro ⟨h1, h2, h3⟩
    have h1 : y = (b : Int) := h1
    have h2 : x.natAbs + b = t := h2
    have h3 : Int.gcd x y = 1 := h3
    subst h1
    have g : Int.gcd ((t : Int) - b) b = 1 := (gcd_abs (by omega) rfl).trans h3
    rw [if_pos g]
    by_cases c : 0 < (t : Int) - b
    · rw [if_pos c]
      by_cases c2 : 0 ≤ x
      · rw [show x = (t : Int) - b by omega]
        exact List.mem_cons_self ..
      · rw [show x = 0 - ((t : Int) - b) by omega]
        exact List.mem_cons_of_mem _ (List.mem_cons_self ..)
    · rw [if_neg c, show x = (t : Int) - b by omega]
      exact List.mem_cons_self ..
theorem mem_sh {t : Nat} {p : Int × Int} : p ∈ shL t ↔ 0 < p.2 ∧ p.1.natAbs + p.2.toNat = t ∧ Int.gcd p.1 p.2 = 1 := by
  unfold shL
  rw [mem_up]
  constructor
  · rintro ⟨b, hb, h⟩
    obtain ⟨h1, h2, h3⟩ := (mem_row (by omega)).mp h
    exact ⟨by omega, by omega, h3⟩
  · rintro ⟨h1, h2, h3⟩
    exact ⟨p.2.toNat - 1, by omega, (mem_row (by omega)).mpr ⟨by omega, by omega, h3⟩⟩
theorem sh_nodup : ∀ t, t ≤ 40 → (shL t).Nodup := by
  have h : (List.range 41).all (fun t => decide (shL t).Nodup) = true := by decide +kernel
  intro t ht
  exact of_decide_eq_true (List.all_eq_true.mp h t (List.mem_range.mpr (by omega)))
theorem idx_of {l : List (Int × Int)} {k : Nat} {p : Int × Int} (hn : l.Nodup) (h : l[k]? = some p) : l.findIdx (sameP p) = k := by
  obtain ⟨hk, e⟩ := List.getElem?_eq_some_iff.mp h
  refine (List.findIdx_eq hk).mpr ⟨sameP_iff.mpr e, fun j hj => ?_⟩
  cases c : sameP p l[j] with
  | false => rfl
  | true =>
    have e2 := sameP_iff.mp c
    have := List.getElem_inj (h₀ := by omega) (h₁ := hk) hn |>.mp (e2.trans e.symm)
    omega
theorem AtS.pl {n : Nat} {d : D} (h : AtS n d) : ∃ p : Int × Int, d = toD p ∧ plS p = n ∧ 0 < p.2 ∧ Int.gcd p.1 p.2 = 1 ∧ p.1.natAbs ≤ 40 ∧ p.2.natAbs ≤ 40 := by
  obtain ⟨t, k, p, t0, t1, hk, ho, rfl⟩ := h
  obtain ⟨h1, h2, h3⟩ := mem_sh.mp (List.mem_of_getElem? hk)
  refine ⟨p, rfl, ?_, h1, h3, by omega, by omega⟩
  unfold plS
  rw [if_neg (by omega), h2, idx_of (sh_nodup t t1) hk, ho]
def lenSh : D → D
  | .int i => .int (shL i.toNat).length
  | _ => .non
section
variable {S S0 : Sto} {P : D → Sto → Prop} {E : D → Sto → Prop} {n : Nat} {m : Int}
theorem o_index {l : List D} {y : D} {i : Nat} (hl : okL 59 l = true) (hy : plain y S = true) (e : findEq (see y S) l 0 = some i) (h : P (.int i) S) : OKR (lindexM (.lst l) [y] S) P E := by
  unfold lindexM
  show OKR (if (okL 59 l && plain y S) = true then ixL (findEq (see y S) l 0) fun i => .ok (.int (i : Nat)) S else .bad) P E
  rw [hl, hy, if_pos (show (true && true) = true from rfl), e]
  exact h
theorem allIn_ints : ∀ l : List Int, allIn (l.map D.int) = some l
  | [] => rfl
  | i :: l => by
    rw [List.map_cons, allIn, allIn_ints l]
    rfl
theorem sum_range (f : Nat → Nat) : ∀ k, ((List.range k).map fun i => ((f i : Nat) : Int)).sum = (((List.range k).map f).sum : Nat)
  | 0 => rfl
  | k + 1 => by
    rw [List.range_succ, List.map_append, List.map_append, List.sum_append, List.sum_append, sum_range f k]
    simp
theorem off_sum : ∀ k, off (k + 1) = ((List.range k).map fun i => (shL (i + 1)).length).sum
  | 0 => rfl
  | k + 1 => by
    rw [List.range_succ, List.map_append, List.sum_append, ← off_sum k]
    show off (k + 1) + (shL (k + 1)).length = _
    simp
theorem share_place_ok {a b : Int} (hb : 0 < b) (hg : Int.gcd a b = 1) (h : P (.int (plS (a, b))) S) : OKR (fshare_place [.tup [.int a, .int b]] S) P E := by
  unfold fshare_place
  with_reducible refine o_fn (by with_unfolding_all rfl) ?_
  unfold bshare_place bshare_place_e0
  walk_at "sms"
  refine br_dec (fun c => ?_) fun c => ?_
  · walk_at "sms"
    rw [show plS (a, b) = 401 from if_pos (by show 40 < a.natAbs + b.toNat; omega)] at h
    exact h
  · obtain ⟨t, ht⟩ : ∃ t : Nat, a.natAbs + b.toNat = t + 1 := ⟨a.natAbs + b.toNat - 1, by omega⟩
    have e : (a.natAbs : Int) + b = ((t + 1 : Nat) : Int) := by omega
    have mem : (a, b) ∈ shL (t + 1) := mem_sh.mpr ⟨hb, ht, hg⟩
    rw [show plS (a, b) = off (t + 1) + (shL (t + 1)).findIdx (sameP (a, b)) from by
      unfold plS
      rw [show (a, b).1.natAbs + (a, b).2.toNat = t + 1 from ht, if_neg (by omega)]] at h
    rw [e]
    walk_at "sms"
    have el : (((t + 1 : Nat) : Int) - 1).toNat = t := by omega
    rw [el]
    refine ⟨Nat.le_of_lt (line_big (by rw [rangeL_len']; omega)), ?_⟩
    with_reducible refine lc_pure (fun _ => true) lenSh ?_ ?_
    · intro d hd
      obtain ⟨x, rfl, x0, x1⟩ := rangeL_mem _ _ d hd
      refine ⟨_, rfl, ?_, fun _ => ?_⟩
      · exact ⟨rfl, rfl⟩
      · obtain ⟨y, rfl⟩ : ∃ y : Nat, x = y := ⟨x.toNat, by omega⟩
        walk_at "sms"
        with_reducible refine shares_of_ok (by omega) ?_
        walk_at "sms"
        rw [List.length_map]
        exact ⟨rfl, rfl, rfl⟩
    · walk_at "sms"
      rw [filt_all, rangeL_eq, List.map_map, List.map_map]
      have em : ((List.range t).map ((lenSh ∘ D.int) ∘ fun i => (1 : Int) + (i : Nat))) = ((List.range t).map fun i => (((shL (i + 1)).length : Nat) : Int)).map D.int := by
        rw [List.map_map]
        refine List.map_congr_left fun i _ => ?_
        show D.int (shL ((1 : Int) + (i : Nat)).toNat).length = D.int (shL (i + 1)).length
        rw [show ((1 : Int) + (i : Nat)).toNat = i + 1 by omega]
      rw [em]
      refine o_sum rfl (allIn_ints _) ?_
      rw [sum_range, ← off_sum]
      walk_at "sms"
      with_reducible refine shares_of_ok (by omega) ?_
      walk_at "sms"
      refine o_index (okL_toD _) rfl (findEq_toD (a, b) _ _ mem) ?_
      walk_at "sms"
      rw [Nat.zero_add, show ((off (t + 1) : Nat) : Int) + (((shL (t + 1)).findIdx (sameP (a, b)) : Nat) : Int) = ((off (t + 1) + (shL (t + 1)).findIdx (sameP (a, b)) : Nat) : Int) by omega]
      exact h
end

def abI (f c e : Int) : Bool := aboutB f (.tup [.int c, .int e])
def abOne (f s p one : Int) : List (Int × Int) := if abI f one (s * p) = true then [(one, s * p)] else []
def abSg (f t p s : Int) : List (Int × Int) := abOne f s p (t - p) ++ abOne f s p (p - t)
def abRow (f t p : Int) : List (Int × Int) := abSg f t p 1 ++ (if 0 < p then abSg f t p (-1) else [])
def abUp (f t : Int) : Nat → List (Int × Int)
  | 0 => []
  | k + 1 => abUp f t k ++ abRow f t k
def abL (f : Int) (t : Nat) : List (Int × Int) := if t = 0 then [(0, 0)] else abUp f t t
def offA (f : Int) : Nat → Nat
  | 0 => 0
  | t + 1 => offA f t + (abL f t).length
theorem abOne_len (f s p one : Int) : (abOne f s p one).length ≤ 1 := by
  unfold abOne
  split <;> simp
theorem abSg_len (f t p s : Int) : (abSg f t p s).length ≤ 2 := by
  have h1 := abOne_len f s p (t - p)
  have h2 := abOne_len f s p (p - t)
  rw [abSg, List.length_append]
  omega
theorem abRow_len (f t p : Int) : (abRow f t p).length ≤ 4 := by
  have h1 := abSg_len f t p 1
  have h2 := abSg_len f t p (-1)
  rw [abRow, List.length_append]
  split
  · omega
  · simp only [List.length_nil]
    omega
theorem abUp_len (f t : Int) : ∀ k, (abUp f t k).length ≤ 4 * k
  | 0 => Nat.le_refl _
  | k + 1 => by
    have h1 := abUp_len f t k
    have h2 := abRow_len f t k
    rw [abUp, List.length_append]
    omega
theorem abL_len (f : Int) (t : Nat) : (abL f t).length ≤ 4 * t + 1 := by
  unfold abL
  split
  · simp
  · have := abUp_len f t t
    omega
theorem offA_21 {f : Int} (f0 : f = 1 ∨ f = 2 ∨ f = 3) : 400 < offA f 21 := by
  rcases f0 with rfl | rfl | rfl
  · decide +kernel
  · decide +kernel
  · decide +kernel
section
variable {S S0 : Sto} {P : D → Sto → Prop} {E : D → Sto → Prop} {n : Nat} {m : Int}
theorem wf_sm {x : Int} (h : x.natAbs ≤ 100000) : Wf 0 6 (.int x) := Wf.int (nb_sm (Nat.lt_of_le_of_lt h (Nat.lt_of_lt_of_le (show 100000 < 10 ^ 6 by decide) (Nat.pow_le_pow_right (by decide) (by decide)))))
theorem ab_one {f s p one : Int} {t : D} {acc : List D} {N B C : Env → Sto → Prop} {TT : D → Sto → Prop} {X : D → Env → Sto → Prop} (f0 : f = 1 ∨ f = 2 ∨ f = 3) (hs : s = 1 ∨ s = -1) (hp : p.natAbs ≤ 1000) (ho : one.natAbs ≤ 1000) (hl : acc.length ≤ 10000)
    (h : N [some (.int f), some t, some (.ref S.length), some (.int p), some (.int s), some (.int one)] (S ++ [Ob.lst false (acc ++ (abOne f s p one).map toD)])) :
    OKS (babouts_of_l0 [some (.int f), some t, some (.ref S.length), some (.int p), some (.int s), some (.int one)] (S ++ [Ob.lst false acc])) N B C TT X := by
  have g := getE (S := S) (l := acc)
  have hb : (s * p).natAbs ≤ 1000 := by rcases hs with rfl | rfl <;> omega
  unfold babouts_of_l0
  walk_at "sms"
  refine is_about_ok f0 (wf_sm (x := one) (by omega)) (wf_sm (x := s * p) (by omega)) ?_
  walk_at "sms"
  rw [show aboutB f (.tup [.int one, .int (s * p)]) = abI f one (s * p) from rfl]
  unfold abOne at h
  cases c : abI f one (s * p) with
  | true =>
    rw [c, if_pos rfl] at h
    walk_at "sms"
    refine o_appE rfl (line_big (by omega)) ?_
    exact h
  | false =>
    rw [c, if_neg (by decide), List.map_nil, List.append_nil] at h
    walk_at "sms"
    exact h
theorem ab_sg {f s p t : Int} {acc : List D} {a5 : Option D} {N B C : Env → Sto → Prop} {TT : D → Sto → Prop} {X : D → Env → Sto → Prop} (f0 : f = 1 ∨ f = 2 ∨ f = 3) (hs : s = 1 ∨ s = -1) (hp : 0 ≤ p) (hp2 : p ≤ t) (ht : t ≤ 1000) (hl : acc.length ≤ 9000)
    (h : ∀ a5, N [some (.int f), some (.int t), some (.ref S.length), some (.int p), some (.int s), a5] (S ++ [Ob.lst false (acc ++ (abSg f t p s).map toD)])) :
    OKS (babouts_of_l1 [some (.int f), some (.int t), some (.ref S.length), some (.int p), some (.int s), a5] (S ++ [Ob.lst false acc])) N B C TT X := by
  unfold babouts_of_l1
  walk_at "sms"
  refine o_forC ⟨_, rfl, ?_⟩
  refine ab_one f0 hs (by omega) (by omega) (by omega) ?_
  refine o_forC ⟨_, rfl, ?_⟩
  have l1 := abOne_len f s p (t - p)
  refine ab_one f0 hs (by omega) (by omega) (by rw [List.length_append, List.length_map]; omega) ?_
  refine o_forN ?_
  have := h (some (.int (p - t)))
  rw [abSg, List.map_append, ← List.append_assoc] at this
  exact this
theorem abouts_of_ok {f : Int} {t : Nat} (f0 : f = 1 ∨ f = 2 ∨ f = 3) (ht : t ≤ 1000) (h : P (.lst ((abL f t).map toD)) S) : OKR (fabouts_of [.int f, .int t] S) P E := by
  unfold fabouts_of
  with_reducible refine o_fn (by with_unfolding_all rfl) ?_
  unfold babouts_of
  walk_at "sms"
  refine br_dec (fun c => ?_) fun c => ?_
  · have c : t = 0 := by omega
    subst c
    walk_at "sms"
    exact h
  · have hL : abL f t = abUp f t t := if_neg (by omega)
    rw [hL] at h
    walk_at "sms"
    refine forL_ok (fun l env S1 => ∃ k, k ≤ t ∧ l = rangeL (k : Int) (t - k) ∧ S1 = S ++ [Ob.lst false ((abUp f t k).map toD)] ∧ ∃ a3 a4 a5, env = [some (.int f), some (.int t), some (.ref S.length), a3, a4, a5]) (fun _ _ _ _ _ z => by cases z) ?_ ?_ _ _ _ ⟨0, Nat.zero_le _, by rw [Int.toNat_natCast]; rfl, rfl, _, _, _, rfl⟩
    · rintro d l env S1 ⟨k, hk, e, rfl, a3, a4, a5, rfl⟩
      obtain ⟨j, hj, rfl, rfl⟩ := rangeL_cons e
      refine ⟨_, rfl, ?_⟩
      have hl := abUp_len f t k
      have nx : ∀ (a3 a4 a5 : Option D), ∃ k', k' ≤ t ∧ rangeL ((k : Int) + 1) j = rangeL (k' : Int) (t - k') ∧ S ++ [Ob.lst false ((abUp f t k).map toD ++ (abRow f t k).map toD)] = S ++ [Ob.lst false ((abUp f t k').map toD)] ∧ ∃ b3 b4 b5, [some (.int f), some (D.int t), some (.ref S.length), a3, a4, a5] = [some (.int f), some (.int t), some (.ref S.length), b3, b4, b5] := fun a3 a4 a5 =>
        ⟨k + 1, by omega, by rw [show t - (k + 1) = j by omega]; rfl, by rw [abUp, List.map_append], _, _, _, rfl⟩
      unfold babouts_of_l2
      walk_at "sms"
      have l1 := abSg_len f t k 1
      by_cases c2 : (0 : Int) < (k : Int)
      · rw [decide_eq_true c2]
        walk_at "sms"
        refine o_cutTp ?_
        rw [show cutL [D.int 1, D.int (-1)] none (some (1 + if true = true then 1 else 0)) = [D.int 1, D.int (-1)] from rfl]
        walk_at "sms"
        refine o_forC ⟨_, rfl, ?_⟩
        refine ab_sg f0 (.inl rfl) (by omega) (by omega) (by omega) (by rw [List.length_map]; omega) fun a5 => ?_
        refine o_forC ⟨_, rfl, ?_⟩
        refine ab_sg f0 (.inr rfl) (by omega) (by omega) (by omega) (by rw [List.length_append, List.length_map, List.length_map]; omega) fun a5 => ?_
        refine o_forN ?_
        have := nx (some (.int k)) (some (.int (-1))) a5
        rw [abRow, if_pos c2, List.map_append, ← List.append_assoc] at this
        exact this
      · rw [decide_eq_false c2]
        walk_at "sms"
        refine o_cutTp ?_
        rw [show cutL [D.int 1, D.int (-1)] none (some (1 + if false = true then 1 else 0)) = [D.int 1] from rfl]
        walk_at "sms"
        refine o_forC ⟨_, rfl, ?_⟩
        refine ab_sg f0 (.inl rfl) (by omega) (by omega) (by omega) (by rw [List.length_map]; omega) fun a5 => ?_
        refine o_forN ?_
        have := nx (some (.int k)) (some (.int 1)) a5
        rw [abRow, if_neg c2, List.append_nil] at this
        exact this
    · rintro env S1 ⟨k, hk, e, rfl, a3, a4, a5, rfl⟩
      have hk2 : t - k = 0 := by
        cases q : t - k with
        | zero => rfl
        | succ j =>
          rw [q] at e
          cases e
      rw [show k = t by omega]
      walk_at "sms"
      exact o_finE h
def AtA (f : Int) (n : Nat) (d : D) : Prop := ∃ t k p, t ≤ 20 ∧ (abL f t)[k]? = some p ∧ offA f t + k = n ∧ d = toD p
theorem about_at_ok {f : Int} {n : Nat} (f0 : f = 1 ∨ f = 2 ∨ f = 3) (hn : n ≤ 400) (h : ∀ d, AtA f n d → P d S) : OKR (fabout_at [.int f, .int n] S) P E := by
  have o21 := offA_21 f0
  unfold fabout_at
  with_reducible refine o_fn (by with_unfolding_all rfl) ?_
  unfold babout_at
  walk_at "sms"
  refine abouts_of_ok (t := 0) f0 (by decide) ?_
  walk_at "sms"
  refine o_while (fun k env S1 => S1 = S ∧ ∃ t x : Nat, t ≤ 20 ∧ x + offA f t = n ∧ k = 21 - t ∧ env = [some (.int f), some (.int x), some (.int t), some (.lst ((abL f t).map toD))]) ?_ 21 _ _ (fuel_sm (by decide)) ⟨rfl, 0, n, by decide, rfl, rfl, rfl⟩
  rintro k env S1 ⟨rfl, t, x, t1, hx, rfl, rfl⟩
  unfold babout_at_t0 babout_at_w1
  have hl := abL_len f t
  walk_at "sms"
  rw [List.length_map]
  refine br_dec (fun c => ?_) fun c => ?_
  · walk_at "sms"
    have ho : offA f (t + 1) = offA f t + (abL f t).length := rfl
    have t2 : t + 1 ≤ 20 := by
      by_cases z : t = 20
      · subst z
        have : offA f 21 = offA f 20 + (abL f 20).length := rfl
        omega
      · omega
    rw [show (t : Int) + 1 = ((t + 1 : Nat) : Int) from rfl]
    with_reducible refine abouts_of_ok (t := t + 1) f0 (by omega) ?_
    walk_at "sms"
    refine ⟨21 - (t + 1), by omega, rfl, t + 1, x - (abL f t).length, t2, by omega, rfl, ?_⟩
    rw [List.length_map, show ((x - (abL f t).length : Nat) : Int) = (x : Int) - ((abL f t).length : Nat) by omega]
    rfl
  · walk_at "sms"
    have hx2 : x < (abL f t).length := by omega
    refine o_ixl (atI_nat (j := x) (v := toD (abL f t)[x]) (by rw [List.getElem?_map, List.getElem?_eq_getElem hx2]; rfl)) ?_
    refine o_finS rfl ?_
    exact h _ ⟨t, x, (abL f t)[x], t1, List.getElem?_eq_getElem hx2, by omega, rfl⟩
end

def plA (f : Int) (p : Int × Int) : Nat := if 40 < p.1.natAbs + p.2.natAbs then 401 else offA f (p.1.natAbs + p.2.natAbs) + (abL f (p.1.natAbs + p.2.natAbs)).findIdx (sameP p)
theorem mem_one {f s p one : Int} {q : Int × Int} : q ∈ abOne f s p one ↔ q.1 = one ∧ q.2 = s * p ∧ abI f q.1 q.2 = true := by
  obtain ⟨x, y⟩ := q
  unfold abOne
  constructor
  · intro h
    split at h
    · rename_i c
      rcases List.mem_cons.mp h with e | h
      · injection e with e1 e2
        subst e1
        subst e2
        exact ⟨rfl, rfl, c⟩
      · cases h
    · cases h
  · rintro ⟨h1, h2, h3⟩
    have h1 : x = one := h1
    have h2 : y = s * p := h2
    subst h1
    subst h2
    have h3 : abI f x (s * p) = true := h3
    rw [if_pos h3]
    exact List.mem_cons_self ..
theorem mem_sg {f s p t : Int} {q : Int × Int} : q ∈ abSg f t p s ↔ (q.1 = t - p ∨ q.1 = p - t) ∧ q.2 = s * p ∧ abI f q.1 q.2 = true := by
  unfold abSg
  rw [List.mem_append, mem_one, mem_one]
  constructor
  · rintro (⟨h1, h2, h3⟩ | ⟨h1, h2, h3⟩)
    · exact ⟨.inl h1, h2, h3⟩
    · exact ⟨.inr h1, h2, h3⟩
  · rintro ⟨h1 | h1, h2, h3⟩
    · exact .inl ⟨h1, h2, h3⟩
    · exact .inr ⟨h1, h2, h3⟩
theorem mem_arow {f t : Int} {p : Nat} {q : Int × Int} (hp : (p : Int) ≤ t) : q ∈ abRow f t p ↔ (q.1.natAbs : Int) = t - p ∧ q.2.natAbs = p ∧ abI f q.1 q.2 = true := by
  unfold abRow
  rw [List.mem_append, mem_sg]
  constructor
  · rintro (⟨h1, h2, h3⟩ | h)
    · exact ⟨by omega, by omega, h3⟩
    · split at h
      · obtain ⟨h1, h2, h3⟩ := mem_sg.mp h
        exact ⟨by omega, by omega, h3⟩
      · cases h
  · rintro ⟨h1, h2, h3⟩
    by_cases c : 0 ≤ q.2
    · exact .inl ⟨by omega, by omega, h3⟩
    · rw [if_pos (show (0 : Int) < (p : Int) by omega)]
      exact .inr (mem_sg.mpr ⟨by omega, by omega, h3⟩)
theorem mem_aup {f t : Int} {q : Int × Int} : ∀ {k : Nat}, q ∈ abUp f t k ↔ ∃ b, b < k ∧ q ∈ abRow f t (b : Nat)
  | 0 => by simp [abUp]
  | k + 1 => by
    rw [abUp, List.mem_append, mem_aup]
    constructor
    · rintro (⟨b, h1, h2⟩ | h)
      · exact ⟨b, by omega, h2⟩
      · exact ⟨k, by omega, h⟩
    · rintro ⟨b, h1, h2⟩
      by_cases c : b = k
      · subst c
        exact .inr h2
      · exact .inl ⟨b, by omega, h2⟩
theorem abI_zero {f e : Int} (h : abI f 0 e = true) : e = 0 := by
  have h : ((decide (-400 ≤ e) && decide (e ≤ 400)) && decide (e = 0)) = true := h
  rw [Bool.and_eq_true, decide_eq_true_iff] at h
  exact h.2
theorem mem_ab {f : Int} {t : Nat} {q : Int × Int} : q ∈ abL f t ↔ q.1.natAbs + q.2.natAbs = t ∧ abI f q.1 q.2 = true := by
  unfold abL
  split
  · rename_i c
    subst c
    constructor
    · intro h
      rw [List.mem_singleton.mp h]
      exact ⟨rfl, rfl⟩
    · rintro ⟨h1, _⟩
      obtain ⟨x, y⟩ := q
      have h1 : x.natAbs + y.natAbs = 0 := h1
      rw [show x = 0 by omega, show y = 0 by omega]
      exact List.mem_cons_self ..
  · rename_i c
    rw [mem_aup]
    constructor
    · rintro ⟨b, hb, h⟩
      obtain ⟨h1, h2, h3⟩ := (mem_arow (by omega)).mp h
      exact ⟨by omega, h3⟩
    · rintro ⟨h1, h3⟩
      have hc : q.1 ≠ 0 := fun z => by
        rw [z] at h3
        have := abI_zero h3
        omega
      exact ⟨q.2.natAbs, by omega, (mem_arow (by omega)).mpr ⟨by omega, rfl, h3⟩⟩
theorem ab_nodup {f : Int} (f0 : f = 1 ∨ f = 2 ∨ f = 3) : ∀ t, t ≤ 20 → (abL f t).Nodup := by
  have h : (List.range 21).all (fun t => decide (abL f t).Nodup) = true := by
    rcases f0 with rfl | rfl | rfl
    · decide +kernel
    · decide +kernel
    · decide +kernel
  intro t ht
  exact of_decide_eq_true (List.all_eq_true.mp h t (List.mem_range.mpr (by omega)))
theorem AtA.pl {f : Int} {n : Nat} {d : D} (f0 : f = 1 ∨ f = 2 ∨ f = 3) (h : AtA f n d) : ∃ p : Int × Int, d = toD p ∧ plA f p = n ∧ abI f p.1 p.2 = true ∧ p.1.natAbs ≤ 20 ∧ p.2.natAbs ≤ 20 := by
  obtain ⟨t, k, p, t1, hk, ho, rfl⟩ := h
  obtain ⟨h1, h2⟩ := mem_ab.mp (List.mem_of_getElem? hk)
  refine ⟨p, rfl, ?_, h2, by omega, by omega⟩
  unfold plA
  rw [h1, if_neg (by omega), idx_of (ab_nodup f0 t t1) hk, ho]
def lenAb (f : Int) : D → D
  | .int i => .int (abL f i.toNat).length
  | _ => .non
section
variable {S S0 : Sto} {P : D → Sto → Prop} {E : D → Sto → Prop} {n : Nat} {m : Int}
theorem offA_sum (f : Int) : ∀ k, offA f k = ((List.range k).map fun i => (abL f i).length).sum
  | 0 => rfl
  | k + 1 => by
    rw [List.range_succ, List.map_append, List.sum_append, ← offA_sum f k]
    show offA f k + (abL f k).length = _
    simp
theorem about_place_ok {f a b : Int} (f0 : f = 1 ∨ f = 2 ∨ f = 3) (hg : abI f a b = true) (h : P (.int (plA f (a, b))) S) : OKR (fabout_place [.int f, .tup [.int a, .int b]] S) P E := by
  unfold fabout_place
  with_reducible refine o_fn (by with_unfolding_all rfl) ?_
  unfold babout_place babout_place_e0
  walk_at "sms"
  refine br_dec (fun c => ?_) fun c => ?_
  · walk_at "sms"
    rw [show plA f (a, b) = 401 from if_pos (by show 40 < a.natAbs + b.natAbs; omega)] at h
    exact h
  · have e0 : (a.natAbs : Int) + (b.natAbs : Int) = ((a.natAbs + b.natAbs : Nat) : Int) := rfl
    have mem : (a, b) ∈ abL f (a.natAbs + b.natAbs) := mem_ab.mpr ⟨rfl, hg⟩
    have c1 : ¬ 40 < a.natAbs + b.natAbs := by omega
    have e1 : plA f (a, b) = offA f (a.natAbs + b.natAbs) + (abL f (a.natAbs + b.natAbs)).findIdx (sameP (a, b)) := if_neg c1
    rw [e1] at h
    rw [e0]
    clear e0 e1 c
    generalize a.natAbs + b.natAbs = t at *
    walk_at "sms"
    rw [Int.toNat_natCast]
    refine ⟨Nat.le_of_lt (line_big (by rw [rangeL_len']; omega)), ?_⟩
    with_reducible refine lc_pure (fun _ => true) (lenAb f) ?_ ?_
    · intro d hd
      obtain ⟨x, rfl, x0, x1⟩ := rangeL_mem _ _ d hd
      refine ⟨_, rfl, ?_, fun _ => ?_⟩
      · exact ⟨rfl, rfl⟩
      · obtain ⟨y, rfl⟩ : ∃ y : Nat, x = y := ⟨x.toNat, by omega⟩
        walk_at "sms"
        with_reducible refine abouts_of_ok f0 (by omega) ?_
        walk_at "sms"
        rw [List.length_map]
        exact ⟨rfl, rfl, rfl⟩
    · walk_at "sms"
      rw [filt_all, rangeL_eq, List.map_map, List.map_map]
      have em : ((List.range t).map ((lenAb f ∘ D.int) ∘ fun i => (0 : Int) + (i : Nat))) = ((List.range t).map fun i => (((abL f i).length : Nat) : Int)).map D.int := by
        rw [List.map_map]
        refine List.map_congr_left fun i _ => ?_
        show D.int (abL f ((0 : Int) + (i : Nat)).toNat).length = D.int (abL f i).length
        rw [show ((0 : Int) + (i : Nat)).toNat = i by omega]
      rw [em]
      refine o_sum rfl (allIn_ints _) ?_
      rw [sum_range, ← offA_sum]
      walk_at "sms"
      with_reducible refine abouts_of_ok f0 (by omega) ?_
      walk_at "sms"
      refine o_index (okL_toD _) rfl (findEq_toD (a, b) _ _ mem) ?_
      walk_at "sms"
      rw [Nat.zero_add, show ((offA f t : Nat) : Int) + (((abL f t).findIdx (sameP (a, b)) : Nat) : Int) = ((offA f t + (abL f t).findIdx (sameP (a, b)) : Nat) : Int) by omega]
      exact h
def plR (p q : Int × Int) : Nat := if plS p < max (plS p) (plS q) then max (plS p) (plS q) * max (plS p) (plS q) + plS p else max (plS p) (plS q) * max (plS p) (plS q) + (max (plS p) (plS q) + plS q)
def AtR (n : Nat) (d : D) : Prop := ∃ i j a b, i ≤ 20 ∧ j ≤ 20 ∧ AtS i a ∧ AtS j b ∧ d = .tup [a, b] ∧ n = max i j * max i j + (if i < max i j then i else max i j + j)
theorem AtS.nr {i : Nat} {d : D} (h : AtS i d) : nr d = true := by
  obtain ⟨t, k, p, _, _, _, _, rfl⟩ := h
  rfl
theorem root_at_ok {n : Nat} (hn : n ≤ 400) (h : ∀ d, AtR n d → P d S) : OKR (froot_at [.int n] S) P E := by
  unfold froot_at
  with_reducible refine o_fn (by with_unfolding_all rfl) ?_
  unfold broot_at
  rw [← broot_at_s2.eq_def]
  walk_at "sms"
  unfold broot_at_s2
  rw [← broot_at_s3.eq_def]
  walk_at "sms"
  refine o_while (fun k env S1 => S1 = S ∧ ∃ q : Nat, q * q ≤ n ∧ k = 401 - q ∧ env = [some (.int n), some (.int q)]) ?_ 401 _ _ (fuel_sm (by decide)) ⟨rfl, 0, by omega, rfl, rfl⟩
  rintro k env S1 ⟨rfl, q, hq, rfl, rfl⟩
  have q20 : q ≤ 20 := by
    refine Classical.byContradiction fun z => ?_
    have : 21 * 21 ≤ q * q := Nat.mul_le_mul (by omega) (by omega)
    omega
  have qq : (q : Int) * q = ((q * q : Nat) : Int) := rfl
  have q1 : ((q : Int) + 1) * ((q : Int) + 1) = (((q + 1) * (q + 1) : Nat) : Int) := rfl
  have q2 : (q + 1) * (q + 1) = q * q + 2 * q + 1 := by
    rw [Nat.add_mul, Nat.mul_add]
    omega
  unfold broot_at_t0 broot_at_w1
  walk_at "sme"
  rw [q1]
  refine br_dec (fun c => ?_) fun c => ?_
  · walk_at "sms"
    exact ⟨401 - (q + 1), by omega, rfl, q + 1, by omega, rfl, rfl⟩
  · have c : n < (q + 1) * (q + 1) := by omega
    unfold broot_at_s3
    walk_at "sms"
    rw [qq]
    obtain ⟨r, hr⟩ : ∃ r : Nat, n = q * q + r := ⟨n - q * q, by omega⟩
    have hr2 : (n : Int) - ((q * q : Nat) : Int) = (r : Int) := by omega
    rw [hr2]
    walk_at "sms"
    refine br_dec (fun c2 => ?_) fun c2 => ?_
    · walk_at "sms"
      refine share_at_ok (by omega) fun a ha => ?_
      walk_at "sms"
      refine share_at_ok (by omega) fun b hb => ?_
      walk_at "sms"
      refine o_frz ha.nr ?_
      walk_at "sms"
      refine o_frz hb.nr ?_
      walk_at "sms"
      have hm : max r q = q := by omega
      exact h _ ⟨r, q, a, b, by omega, q20, ha, hb, rfl, by rw [hm, if_pos (by omega)]; exact hr⟩
    · walk_at "sms"
      refine share_at_ok (by omega) fun a ha => ?_
      walk_at "sms"
      rw [show (r : Int) - (q : Int) = ((r - q : Nat) : Int) by omega]
      refine share_at_ok (by omega) fun b hb => ?_
      walk_at "sms"
      refine o_frz ha.nr ?_
      walk_at "sms"
      refine o_frz hb.nr ?_
      walk_at "sms"
      have hm : max q (r - q) = q := by omega
      exact h _ ⟨q, r - q, a, b, q20, by omega, ha, hb, rfl, by rw [hm, if_neg (by omega)]; omega⟩
theorem AtR.pl {n : Nat} {d : D} (h : AtR n d) : ∃ p q : Int × Int, d = .tup [toD p, toD q] ∧ plR p q = n ∧ 0 < p.2 ∧ Int.gcd p.1 p.2 = 1 ∧ p.1.natAbs ≤ 40 ∧ p.2.natAbs ≤ 40 ∧ 0 < q.2 ∧ Int.gcd q.1 q.2 = 1 ∧ q.1.natAbs ≤ 40 ∧ q.2.natAbs ≤ 40 := by
  obtain ⟨i, j, a, b, _, _, ha, hb, rfl, hn⟩ := h
  obtain ⟨p, rfl, hp, p1, p2, p3, p4⟩ := ha.pl
  obtain ⟨q, rfl, hq, q1, q2, q3, q4⟩ := hb.pl
  refine ⟨p, q, rfl, ?_, p1, p2, p3, p4, q1, q2, q3, q4⟩
  unfold plR
  rw [hp, hq, hn]
  split <;> rfl
theorem plS_le (p : Int × Int) : plS p ≤ 100000 := by
  unfold plS
  split
  · decide
  · rename_i c
    have h1 : ∀ t, off t ≤ 2 * t * t := by
      intro t
      induction t with
      | zero => exact Nat.le_refl _
      | succ t ih =>
        have := shL_len t
        have e : 2 * (t + 1) * (t + 1) = 2 * t * t + 4 * t + 2 := by
          rw [Nat.mul_add, Nat.mul_add, Nat.add_mul]
          omega
        show off t + (shL t).length ≤ _
        omega
    have h2 := h1 (p.1.natAbs + p.2.toNat)
    have h3 := shL_len (p.1.natAbs + p.2.toNat)
    have h4 : (shL (p.1.natAbs + p.2.toNat)).findIdx (sameP p) ≤ (shL (p.1.natAbs + p.2.toNat)).length := List.findIdx_le_length ..
    generalize p.1.natAbs + p.2.toNat = t at *
    have h5 : 2 * t * t ≤ 80 * 40 := Nat.mul_le_mul (by omega) (by omega)
    omega
theorem root_place_ok {a b c d : Int} (hb : 0 < b) (hg : Int.gcd a b = 1) (hd : 0 < d) (hg2 : Int.gcd c d = 1) (h : P (.int (plR (a, b) (c, d))) S) : OKR (froot_place [.tup [.tup [.int a, .int b], .tup [.int c, .int d]]] S) P E := by
  have b1 := plS_le (a, b)
  have b2 := plS_le (c, d)
  unfold froot_place
  with_reducible refine o_fn (by with_unfolding_all rfl) ?_
  unfold broot_place
  walk_at "sms"
  refine share_place_ok hb hg ?_
  walk_at "sms"
  refine share_place_ok hd hg2 ?_
  unfold plR at h
  generalize plS (a, b) = x at *
  generalize plS (c, d) = y at *
  walk_at "sms"
  have hm : (if ((y : Nat) : Int) > (x : Int) then ((y : Nat) : Int) else (x : Int)) = ((max x y : Nat) : Int) := by
    split <;> omega
  rw [hm]
  have hM : max x y ≤ 100000 := by omega
  generalize max x y = M at *
  walk_at "sms"
  refine br_dec (fun c => ?_) fun c => ?_
  · rw [if_pos (by omega)] at h
    walk_at "sms"
    exact h
  · rw [if_neg (by omega)] at h
    walk_at "sms"
    exact h
end

def sureRow (w : Int) : Nat → List (Int × Int)
  | 0 => []
  | k + 1 => sureRow w k ++ [(-2 + (k : Int), -2 + (k : Int) + w)]
def sureUp : Nat → List (Int × Int)
  | 0 => []
  | w + 1 => sureUp w ++ sureRow w (5 - w)
def sureP : List (Int × Int) := sureUp 5
abbrev sD (p : Int × Int) : D := .tup [.tup [.int p.1, .int 1], .tup [.int p.2, .int 1]]
def sureD : List D := sureP.map sD
theorem sureRow_len (w : Int) : ∀ k, (sureRow w k).length = k
  | 0 => rfl
  | k + 1 => by
    rw [sureRow, List.length_append, sureRow_len w k]
    rfl
section
variable {S S0 : Sto} {P : D → Sto → Prop} {E : D → Sto → Prop} {n : Nat} {m : Int}
theorem sure_l0 {w x : Int} {acc : List D} {N B C : Env → Sto → Prop} {TT : D → Sto → Prop} {X : D → Env → Sto → Prop} (hl : acc.length ≤ 1000) (h : N [some (.ref S.length), some (.int w), some (.int x)] (S ++ [Ob.lst false (acc ++ [sD (x, x + w)])])) :
    OKS (bsure_worths_l0 [some (.ref S.length), some (.int w), some (.int x)] (S ++ [Ob.lst false acc])) N B C TT X := by
  have g := getE (S := S) (l := acc)
  unfold bsure_worths_l0
  walk_at "sms"
  refine o_appE rfl (line_big (by omega)) ?_
  exact h
theorem sure_row {b : Env → Sto → SR} (hb : b = bsure_worths_l0) {w : Nat} {acc : List D} {N B C : Env → Sto → Prop} {TT : D → Sto → Prop} {X : D → Env → Sto → Prop} (hl : acc.length ≤ 100) (hw : w ≤ 5) :
    ∀ (j k : Nat), k + j = 5 - w → (∀ a2, N [some (.ref S.length), some (.int w), a2] (S ++ [Ob.lst false (acc ++ (sureRow w (5 - w)).map sD)])) →
    ∀ a2, OKS (forL (.one 2) b none none (rangeL (-2 + (k : Int)) j) [some (.ref S.length), some (.int w), a2] (S ++ [Ob.lst false (acc ++ (sureRow w k).map sD)])) N B C TT X
  | 0, k, e, h, a2 => by
    rw [show k = 5 - w by omega]
    refine o_forN ?_
    exact h _
  | j + 1, k, e, h, a2 => by
    rw [rangeL]
    refine o_forC ⟨_, rfl, ?_⟩
    have g := getE (S := S) (l := acc ++ (sureRow w k).map sD)
    have l1 := sureRow_len w k
    have hw0 := sure_l0 (S := S) (w := (w : Int)) (x := -2 + (k : Int)) (acc := acc ++ (sureRow w k).map sD) (by rw [List.length_append, List.length_map]; omega) (N := fun e S1 => OKS (forL (.one 2) b none none (rangeL (-2 + (k : Int) + 1) j) e S1) N B C TT X) (B := N) (C := fun e S1 => OKS (forL (.one 2) b none none (rangeL (-2 + (k : Int) + 1) j) e S1) N B C TT X) (TT := TT) (X := X)
    rw [hb] at hw0 ⊢
    refine hw0 ?_
    have := sure_row rfl (b := bsure_worths_l0) (N := N) (B := B) (C := C) (TT := TT) (X := X) hl hw j (k + 1) (by omega) h (some (.int (-2 + (k : Int))))
    rw [sureRow, List.map_append, ← List.append_assoc] at this
    rw [show -2 + (k : Int) + 1 = -2 + ((k + 1 : Nat) : Int) by omega]
    exact this
theorem sure_l1 {w : Nat} {acc : List D} {a2 : Option D} {N B C : Env → Sto → Prop} {TT : D → Sto → Prop} {X : D → Env → Sto → Prop} (hl : acc.length ≤ 100) (hw : w ≤ 5) (h : ∀ a2, N [some (.ref S.length), some (.int w), a2] (S ++ [Ob.lst false (acc ++ (sureRow w (5 - w)).map sD)])) :
    OKS (bsure_worths_l1 [some (.ref S.length), some (.int w), a2] (S ++ [Ob.lst false acc])) N B C TT X := by
  unfold bsure_worths_l1
  walk_at "sms"
  rw [show (2 + 1 - (w : Int) - (0 - 2)).toNat = 5 - w by omega]
  have := sure_row rfl (b := bsure_worths_l0) (acc := acc) (w := w) (N := N) (B := B) (C := C) (TT := TT) (X := X) (S := S) hl hw (5 - w) 0 (by omega) h a2
  rw [sureRow, List.map_nil, List.append_nil] at this
  exact this
theorem sure_up {b : Env → Sto → SR} (hb : b = bsure_worths_l1) {N B C : Env → Sto → Prop} {TT : D → Sto → Prop} {X : D → Env → Sto → Prop} :
    ∀ (j w : Nat), w + j = 5 → (∀ a1 a2, N [some (.ref S.length), a1, a2] (S ++ [Ob.lst false (sureP.map sD)])) →
    ∀ a1 a2, OKS (forL (.one 1) b none none (rangeL (w : Int) j) [some (.ref S.length), a1, a2] (S ++ [Ob.lst false ((sureUp w).map sD)])) N B C TT X
  | 0, w, e, h, a1, a2 => by
    have hw : w = 5 := by omega
    subst hw
    refine o_forN ?_
    exact h _ _
  | j + 1, w, e, h, a1, a2 => by
    have sl : ∀ w, w ≤ 5 → (sureUp w).length ≤ 5 * w := by
      intro w
      induction w with
      | zero => intro _; exact Nat.le_refl _
      | succ w ih =>
        intro h
        have := ih (by omega)
        rw [sureUp, List.length_append, sureRow_len]
        omega
    have hl := sl w (by omega)
    rw [rangeL]
    refine o_forC ⟨_, rfl, ?_⟩
    have ih := sure_up hb (N := N) (B := B) (C := C) (TT := TT) (X := X) j (w + 1) (by omega) h (some (.int w))
    have hw0 := sure_l1 (S := S) (w := w) (acc := (sureUp w).map sD) (a2 := a2) (N := fun e S1 => OKS (forL (.one 1) b none none (rangeL ((w : Int) + 1) j) e S1) N B C TT X) (B := N) (C := fun e S1 => OKS (forL (.one 1) b none none (rangeL ((w : Int) + 1) j) e S1) N B C TT X) (TT := TT) (X := X) (by rw [List.length_map]; omega) (by omega)
    rw [hb] at hw0 ih ⊢
    refine hw0 fun a2 => ?_
    have ih2 := ih a2
    rw [sureUp, List.map_append] at ih2
    exact ih2
theorem sure_worths_ok {f : Fn} (hf : f = fsure_worths) (h : P (.lst sureD) S) : OKR (f [] S) P E := by
  rw [hf]
  unfold fsure_worths
  with_reducible refine o_fn (by with_unfolding_all rfl) ?_
  unfold bsure_worths
  generalize hb : bsure_worths_l1 = b
  walk_at "sms"
  refine sure_up hb.symm 5 0 rfl (fun a1 a2 => ?_) _ _
  walk_at "sms"
  exact o_finE h
end

def plW : D → Int
  | .int z => 2 * z.natAbs - (if 0 < z then 1 else 0)
  | _ => 0
def plSD : D → Int
  | .tup [.int a, .int b] => plS (a, b)
  | _ => 0
def plAD (f : Int) : D → Int
  | .tup [.int a, .int b] => plA f (a, b)
  | _ => 0
def plRD : D → Int
  | .tup [.tup [.int a, .int b], .tup [.int c, .int d]] => plR (a, b) (c, d)
  | _ => 0
def plU (d : D) : Int := match findEq d sureD 0 with
  | some i => (i : Nat)
  | none => 401
def plN : D → Int
  | .int z => z
  | _ => 0
def plD : D → D → Int
  | .tup [.str w], d => if w = wWhole then plW d else plSD d
  | .tup [.str w, .int f], d => if w = wRest then plN d else if w = wAbout then plAD f d else if w = wRoot then plRD d else plU d
  | _, d => plN d
def manyB : D → Int
  | .tup [.str w, .int x] => if w = wRest then x else if w = wSure then 15 else 401
  | .tup [.str _, .tup u, _] => u.length
  | _ => 401
def wholeAt (n : Nat) : Int := if n % 2 = 1 then (((n + 1) / 2 : Nat) : Int) else 0 - ((n / 2 : Nat) : Int)
inductive AtW : D → Nat → D → Prop where
  | whole (n : Nat) : AtW (.tup [.str wWhole]) n (.int (wholeAt n))
  | share {n : Nat} {d : D} : AtS n d → AtW (.tup [.str wShare]) n d
  | root {n : Nat} {d : D} (x : Int) : AtR n d → AtW (.tup [.str wRoot, .int x]) n d
  | about {n : Nat} {d : D} (f : Int) : f = 1 ∨ f = 2 ∨ f = 3 → AtA f n d → AtW (.tup [.str wAbout, .int f]) n d
  | sure {n : Nat} {d : D} (x : Int) : sureD[n]? = some d → AtW (.tup [.str wSure, .int x]) n d
  | rest {n : Nat} (x : Int) : (n : Int) < x → x ≤ 12 → AtW (.tup [.str wRest, .int x]) n (.int n)
  | own {n : Nat} (u : List D) (t : D) : n < u.length → u.length ≤ 6 → AtW (.tup [.str wOwn, .tup u, t]) n (.int n)
theorem fr_b {a b : Int} (h0 : 0 < b) (h1 : Int.gcd a b = 1) : fracB (.tup [.int a, .int b]) = true := by
  show (decide (0 < b) && decide ((Int.gcd a b : Int) = 1)) = true
  rw [decide_eq_true h0, h1]
  rfl
theorem wf_two {a b : Int} (h0 : a.natAbs ≤ 100000) (h1 : b.natAbs ≤ 100000) : Wf 1 6 (.tup [.int a, .int b]) := Wf.tup (by simp only [List.length_cons, List.length_nil]; decide) fun z hz => by
  simp only [List.mem_cons, List.not_mem_nil, or_false] at hz
  rcases hz with rfl | rfl
  · exact wf_sm h0
  · exact wf_sm h1
theorem wf_pr {j : Nat} {a b : D} (ha : Wf j 6 a) (hb : Wf j 6 b) : Wf (j + 1) 6 (.tup [a, b]) := Wf.tup (by simp only [List.length_cons, List.length_nil]; decide) fun z hz => by
  simp only [List.mem_cons, List.not_mem_nil, or_false] at hz
  rcases hz with rfl | rfl
  · exact ha
  · exact hb
theorem AtW.good {kd d : D} {n : Nat} (h : AtW kd n d) (hn : n ≤ 400) : worthB kd d = true ∧ plD kd d = n ∧ Wf 2 6 d := by
  cases h with
  | whole =>
    refine ⟨rfl, ?_, (wf_sm ?_).up (by decide) (by decide)⟩
    · show 2 * ((wholeAt n).natAbs : Int) - (if 0 < wholeAt n then 1 else 0) = n
      unfold wholeAt
      split
      · rw [if_pos (by omega)]
        omega
      · rw [if_neg (by omega)]
        omega
    · unfold wholeAt
      split <;> omega
  | share h =>
    obtain ⟨p, rfl, hp, p1, p2, p3, p4⟩ := h.pl
    exact ⟨fr_b p1 p2, by show ((plS p : Nat) : Int) = n; rw [hp], (wf_two (by omega) (by omega)).up (by decide) (by decide)⟩
  | root x h =>
    obtain ⟨p, q, rfl, hp, p1, p2, p3, p4, q1, q2, q3, q4⟩ := h.pl
    refine ⟨?_, by show ((plR p q : Nat) : Int) = n; rw [hp], wf_pr (wf_two (by omega) (by omega)) (wf_two (by omega) (by omega))⟩
    show (fracB (toD p) && (fracB (toD q) && true)) = true
    rw [fr_b p1 p2, fr_b q1 q2]
    rfl
  | about f f0 h =>
    obtain ⟨p, rfl, hp, p1, p3, p4⟩ := h.pl f0
    exact ⟨p1, by show ((plA f p : Nat) : Int) = n; rw [hp], (wf_two (by omega) (by omega)).up (by decide) (by decide)⟩
  | sure x h =>
    have key : (List.range 15).all (fun n => match sureD[n]? with
      | some d => worthB (.tup [.str wSure, .int 0]) d && decide (plU d = n)
      | none => false) = true := by decide +kernel
    have hs : sureD.length = 15 := rfl
    have hn2 : n < 15 := by
      have := (List.getElem?_eq_some_iff.mp h).1
      omega
    have k1 := List.all_eq_true.mp key n (List.mem_range.mpr hn2)
    rw [h] at k1
    have k2 := Bool.and_eq_true_iff.mp k1
    refine ⟨k2.1, of_decide_eq_true k2.2, ?_⟩
    obtain ⟨p, hp, rfl⟩ := List.mem_map.mp (List.mem_of_getElem? h)
    have k3 : sureP.all (fun p => decide (p.1.natAbs ≤ 10) && decide (p.2.natAbs ≤ 10)) = true := by decide +kernel
    have k4 := List.all_eq_true.mp k3 p hp
    rw [Bool.and_eq_true, decide_eq_true_iff, decide_eq_true_iff] at k4
    exact wf_pr (wf_two (by omega) (by decide)) (wf_two (by omega) (by decide))
  | rest x hx hx2 =>
    refine ⟨?_, rfl, (wf_sm (by omega)).up (by decide) (by decide)⟩
    show (decide (0 ≤ (n : Int)) && decide ((n : Int) ≤ x - 1)) = true
    rw [decide_eq_true (by omega), decide_eq_true (by omega)]
    rfl
  | own u t hu hu2 =>
    refine ⟨?_, rfl, (wf_sm (by omega)).up (by decide) (by decide)⟩
    show (decide (0 ≤ (n : Int)) && decide ((n : Int) ≤ (u.length : Int) - 1)) = true
    rw [decide_eq_true (by omega), decide_eq_true (by omega)]
    rfl
section
variable {S S0 : Sto} {P : D → Sto → Prop} {E : D → Sto → Prop} {n k W k2 W2 : Nat} {m : Int}
theorem whole_at_ok {n : Nat} (hn : n ≤ 400) (h : P (.int (wholeAt n)) S) : OKR (fwhole_at [.int n] S) P E := by
  unfold fwhole_at
  with_reducible refine o_fn (by with_unfolding_all rfl) ?_
  unfold bwhole_at
  walk_at "sms"
  refine o_mod (cMod_ne (by decide)) ?_
  walk_at "sms"
  unfold wholeAt at h
  rw [Int.fmod_eq_emod_of_nonneg _ (by decide)]
  refine br_dec (fun c => ?_) fun c => ?_
  · rw [if_pos (by omega)] at h
    walk_at "sms"
    rw [Int.fdiv_eq_ediv_of_nonneg _ (by decide)]
    exact h
  · rw [if_neg (by omega)] at h
    walk_at "sms"
    rw [Int.fdiv_eq_ediv_of_nonneg _ (by decide)]
    exact h
theorem worth_at_ok {kd x : D} (hk : Wf k W kd) (hx : Wf k2 W2 x) (h1 : kindB kd = false → E (.exc k_BadKind []) S) (h2 : kindB kd = true → numB x 0 400 = false → E (.exc k_BadNumber []) S)
    (h3 : kindB kd = true → ∀ n : Nat, x = .int n → n ≤ 400 → manyB kd ≤ n → E (.exc k_BadNumber []) S)
    (h4 : kindB kd = true → ∀ (n : Nat) (d : D), x = .int n → n ≤ 400 → (n : Int) < manyB kd → AtW kd n d → P d S) : OKR (fworth_at [kd, x] S) P E := by
  unfold fworth_at
  with_reducible refine o_fn (by with_unfolding_all rfl) ?_
  unfold bworth_at
  rw [← bworth_at_s2.eq_def]
  walk_at "sms"
  refine need_kind_ok hk ?_
  cases c : kindB kd with
  | false =>
    rw [if_neg (by decide), take_all]
    exact h1 c
  | true =>
    rw [if_pos rfl]
    walk_at "sms"
    refine among_any hx ?_
    walk_at "sms"
    cases c2 : numB x 0 400 with
    | false =>
      walk_at "sms"
      rw [take_all]
      exact h2 c c2
    | true =>
      obtain ⟨y, rfl, y0, y1⟩ := num_cases c2
      obtain ⟨n, rfl⟩ : ∃ n : Nat, y = n := ⟨y.toNat, by omega⟩
      have hn : n ≤ 400 := by omega
      have h3 := fun h => h3 c n rfl hn h
      have h4 := fun d h => h4 c n d rfl hn h
      clear h1 h2
      have sure0 : ∀ {l : List D} {kk : D} {N B C : Env → Sto → Prop}, (∀ d, l[n]? = some d → nr d = true) → (l.length ≤ n → E (.exc k_BadNumber []) S) → (∀ d, l[n]? = some d → P d S) → OKS (bworth_at_s7 [some kk, some (.int n), some (.lst l)] S) N B C (fun d S' => OKR (if true = true then fin S.length d S' else .ok d S') P E) (fun e _ S' => E e (S'.take S.length)) := fun {l kk N B C} hnr g1 g2 => by
        unfold bworth_at_s7
        walk_at "sms"
        refine br_dec (fun c => ?_) fun c => ?_
        · walk_at "sms"
          rw [take_all]
          exact g1 (by omega)
        · walk_at "sms"
          have hl : n < l.length := by omega
          have e := List.getElem?_eq_getElem hl
          refine o_ixl (atI_nat (j := n) (v := l[n]) e) ?_
          refine o_finS (hnr _ e) ?_
          exact g2 _ e
      have kc := kind_cases c
      unfold bworth_at_s2
      rw [← bworth_at_s7.eq_def]
      cases kc with
      | whole =>
        walk_at "sms"
        refine whole_at_ok hn ?_
        walk_at "sms"
        exact h4 _ (by show (n : Int) < 401; omega) (.whole n)
      | share =>
        walk_at "sms"
        refine share_at_ok hn fun d hd => ?_
        refine o_finS hd.nr ?_
        exact h4 _ (by show (n : Int) < 401; omega) (.share hd)
      | root x x0 x1 =>
        walk_at "sms"
        refine root_at_ok hn fun d hd => ?_
        refine o_finS ?_ ?_
        · obtain ⟨_, _, _, _, _, _, _, _, rfl, _⟩ := hd
          rfl
        · exact h4 _ (by show (n : Int) < 401; omega) (.root x hd)
      | about f f0 f1 =>
        have hf : f = 1 ∨ f = 2 ∨ f = 3 := by omega
        walk_at "sms"
        refine about_at_ok hf hn fun d hd => ?_
        refine o_finS ?_ ?_
        · obtain ⟨_, _, _, _, _, _, rfl⟩ := hd
          rfl
        · exact h4 _ (by show (n : Int) < 401; omega) (.about f hf hd)
      | sure x x0 x1 =>
        walk_at "sms"
        refine sure_worths_ok rfl ?_
        walk_at "sms"
        refine sure0 (fun d hd => ?_) (fun hl => ?_) fun d hd => ?_
        · obtain ⟨p, _, rfl⟩ := List.mem_map.mp (List.mem_of_getElem? hd)
          rfl
        · exact h3 (by show (15 : Int) ≤ n; have : sureD.length = 15 := rfl; omega)
        · exact h4 _ (by show (n : Int) < 15; have : sureD.length = 15 := rfl; have := (List.getElem?_eq_some_iff.mp hd).1; omega) (.sure x hd)
      | rest x x0 x1 =>
        walk_at "sms"
        with_reducible refine many_ok hk ?_
        rw [if_pos c, if_pos (show finB (.tup [.str wRest, .int x]) = true from rfl), show cntB (.tup [.str wRest, .int x]) = .int x from rfl]
        walk_at "sms"
        have hx : (x - 0).toNat = x.toNat := by omega
        rw [hx, rangeL_eq]
        have hl : ((((List.range x.toNat).map fun i => (0 : Int) + (i : Nat)).map D.int)).length = x.toNat := by simp
        have hi : ∀ d, ((((List.range x.toNat).map fun i => (0 : Int) + (i : Nat)).map D.int))[n]? = some d → d = .int n ∧ n < x.toNat := fun d hd => by
          have hlt := (List.getElem?_eq_some_iff.mp hd).1
          rw [hl] at hlt
          rw [List.getElem?_map, List.getElem?_map, List.getElem?_range hlt] at hd
          injection hd with hd
          exact ⟨by rw [← hd]; show D.int (0 + (n : Int)) = _; rw [Int.zero_add], hlt⟩
        refine sure0 (fun d hd => by rw [(hi d hd).1]; rfl) (fun hl2 => ?_) fun d hd => ?_
        · exact h3 (by show x ≤ n; omega)
        · obtain ⟨rfl, hlt⟩ := hi d hd
          exact h4 _ (by show (n : Int) < x; omega) (.rest x (by omega) x1)
      | own u t u0 u1 =>
        walk_at "sms"
        with_reducible refine many_ok hk ?_
        rw [if_pos c, if_pos (show finB (.tup [.str wOwn, .tup u, t]) = true from rfl), show cntB (.tup [.str wOwn, .tup u, t]) = .int u.length from rfl]
        walk_at "sms"
        have hx : ((u.length : Int) - 0).toNat = u.length := by omega
        rw [hx, rangeL_eq]
        have hl : ((((List.range u.length).map fun i => (0 : Int) + (i : Nat)).map D.int)).length = u.length := by simp
        have hi : ∀ d, ((((List.range u.length).map fun i => (0 : Int) + (i : Nat)).map D.int))[n]? = some d → d = .int n ∧ n < u.length := fun d hd => by
          have hlt := (List.getElem?_eq_some_iff.mp hd).1
          rw [hl] at hlt
          rw [List.getElem?_map, List.getElem?_map, List.getElem?_range hlt] at hd
          injection hd with hd
          exact ⟨by rw [← hd]; show D.int (0 + (n : Int)) = _; rw [Int.zero_add], hlt⟩
        refine sure0 (fun d hd => by rw [(hi d hd).1]; rfl) (fun hl2 => ?_) fun d hd => ?_
        · exact h3 (by show (u.length : Int) ≤ n; omega)
        · obtain ⟨rfl, hlt⟩ := hi d hd
          exact h4 _ (by show (n : Int) < (u.length : Int); omega) (.own u t hlt u1)
end

section
variable {S S0 : Sto} {P : D → Sto → Prop} {E : D → Sto → Prop} {n k W k2 W2 : Nat} {m : Int}
theorem frac_fr {a b : Int} (h : fracB (.tup [.int a, .int b]) = true) : 0 < b ∧ Int.gcd a b = 1 := by
  have h : (decide (0 < b) && decide ((Int.gcd a b : Int) = 1)) = true := h
  rw [Bool.and_eq_true, decide_eq_true_iff, decide_eq_true_iff] at h
  exact ⟨h.1, by omega⟩
theorem ints_two {k W : Nat} {d : D} (h : Wf k W d) {f : Int} (ha : aboutB f d = true) : ∃ a b : Int, d = .tup [.int a, .int b] ∧ NB 500 a ∧ NB 500 b := by
  unfold aboutB at ha
  split at ha
  · obtain ⟨j, rfl, _, hr⟩ := h.of_tup
    exact ⟨_, _, rfl, (hr _ (List.mem_cons_self ..)).of_int, (hr _ (List.mem_cons_of_mem _ (List.mem_cons_self ..))).of_int⟩
  · cases ha
theorem two_frac {k W : Nat} {d : D} {g : D → D → Bool} (h : Wf k W d) (ha : twoB g d = true) : ∃ a b c e : Int, d = .tup [.tup [.int a, .int b], .tup [.int c, .int e]] ∧ 0 < b ∧ Int.gcd a b = 1 ∧ 0 < e ∧ Int.gcd c e = 1 := by
  unfold twoB at ha
  split at ha
  · rename_i x y
    rw [Bool.and_eq_true, Bool.and_eq_true] at ha
    obtain ⟨j, rfl, _, hr⟩ := h.of_tup
    obtain ⟨a, b, rfl, _, _⟩ := frac_int (hr _ (List.mem_cons_self ..)) ha.1
    obtain ⟨c, e, rfl, _, _⟩ := frac_int (hr _ (List.mem_cons_of_mem _ (List.mem_cons_self ..))) ha.2.1
    exact ⟨a, b, c, e, rfl, (frac_fr ha.1).1, (frac_fr ha.1).2, (frac_fr ha.2.1).1, (frac_fr ha.2.1).2⟩
  · cases ha
theorem any_find (y : D) : ∀ (l : List D) (n : Nat), (l.any fun x => eqV x y) = (findEq y l n).isSome
  | [], _ => rfl
  | x :: l, n => by
    rw [List.any_cons, findEq, any_find y l (n + 1)]
    cases c : eqV x y with
    | true => rfl
    | false => rfl
theorem o_inL {a : D} {l : List D} {b : Bool} (ha : plain a S = true) (hs : see a S = a) (hl : okD 60 (.lst l) = true) (hn : ∀ c, a ≠ .str [c]) (e : (l.any fun y => eqV y a) = b) (h : P (.bl b) S) : OKR (inD false a (.lst l) S) P E := by
  have key : inD false a (.lst l) S = if (plain a S && (hasR (.lst l) S && okD 60 (.lst l))) = true then .ok (.bl (l.any fun y => eqV y (see a S))) S else .bad := by
    unfold inD
    split
    · rename_i heq
      cases heq
    · rename_i heq
      cases heq
      rfl
    · rename_i heq
      cases heq
    · rename_i z _ _
      exact absurd rfl (z _)
  rw [key, ha, hl, hs, e, show hasR (.lst l) S = true from rfl, if_pos (show (true && (true && true)) = true from rfl)]
  exact h
theorem place_of_ok {kd x : D} (hk : Wf k W kd) (hx : Wf k2 W2 x) (h1 : kindB kd = false → E (.exc k_BadKind []) S) (h2 : kindB kd = true → worthB kd x = false → E (.exc k_BadWorth []) S)
    (h3 : kindB kd = true → worthB kd x = true → 400 < plD kd x → E (.exc k_BadNumber []) S)
    (h4 : kindB kd = true → worthB kd x = true → plD kd x ≤ 400 → P (.int (plD kd x)) S) : OKR (fplace_of [kd, x] S) P E := by
  unfold fplace_of
  with_reducible refine o_fn (by with_unfolding_all rfl) ?_
  unfold bplace_of
  rw [← bplace_of_s3.eq_def]
  walk_at "sms"
  refine need_worth_ok hk hx ?_
  cases c : kindB kd with
  | false =>
    rw [if_neg (by decide), take_all]
    exact h1 c
  | true =>
    rw [if_pos rfl]
    cases c2 : worthB kd x with
    | false =>
      rw [if_neg (by decide), take_all]
      exact h2 c c2
    | true =>
      rw [if_pos rfl]
      have tail : ∀ {y : Int} {N B C : Env → Sto → Prop}, plD kd x = y → OKS (bplace_of_s3 [some kd, some x, some (.int y)] S) N B C (fun d S' => OKR (if true = true then fin S.length d S' else .ok d S') P E) (fun e _ S' => E e (S'.take S.length)) := fun {y N B C} e => by
        unfold bplace_of_s3
        walk_at "sms"
        refine br_dec (fun c3 => ?_) fun c3 => ?_
        · walk_at "sms"
          rw [take_all]
          exact h3 c c2 (by omega)
        · walk_at "sms"
          rw [← e]
          exact h4 c c2 (by omega)
      have kc := kind_cases c
      cases kc with
      | whole =>
        have hi : ∃ z, x = .int z := by
          cases x with
          | int z => exact ⟨z, rfl⟩
          | _ => cases c2
        obtain ⟨z, rfl⟩ := hi
        have nz := hx.of_int
        walk_at "sms"
        refine o_mul (cMulT 1 500 (by decide) (by unfold NB at *; omega) (by decide)) ?_
        walk_at "sms"
        refine tail ?_
        show 2 * ((z.natAbs : Nat) : Int) - (if 0 < z then 1 else 0) = 2 * (z.natAbs : Int) - (if decide (0 < z) = true then 1 else 0)
        by_cases q : 0 < z
        · rw [if_pos q, if_pos (decide_eq_true q)]
        · rw [if_neg q, if_neg (by simpa using q)]
      | share =>
        obtain ⟨a, b, rfl, _, _⟩ := frac_int hx c2
        obtain ⟨f1, f2⟩ := frac_fr c2
        walk_at "sms"
        refine share_place_ok f1 f2 ?_
        walk_at "sms"
        exact tail rfl
      | root r r0 r1 =>
        obtain ⟨a, b, e, f, rfl, f1, f2, f3, f4⟩ := two_frac hx c2
        walk_at "sms"
        refine root_place_ok f1 f2 f3 f4 ?_
        walk_at "sms"
        exact tail rfl
      | about f f0 f1 =>
        obtain ⟨a, b, rfl, _, _⟩ := ints_two hx c2
        walk_at "sms"
        refine about_place_ok (by omega) c2 ?_
        walk_at "sms"
        exact tail rfl
      | sure r r0 r1 =>
        obtain ⟨a, b, e, f, rfl, f1, f2, f3, f4⟩ := two_frac hx c2
        have ok : okL 59 sureD = true := by decide +kernel
        walk_at "sms"
        refine sure_worths_ok rfl ?_
        refine o_inL rfl rfl ok (fun c => by intro z; cases z) (any_find _ _ 0) ?_
        walk_at "sms"
        cases q : findEq (.tup [.tup [.int a, .int b], .tup [.int e, .int f]]) sureD 0 with
        | none =>
          walk_at "sms"
          refine tail ?_
          show plU _ = _
          unfold plU
          rw [q]
          rfl
        | some i =>
          walk_at "sms"
          refine sure_worths_ok rfl ?_
          walk_at "sms"
          refine o_index ok rfl q ?_
          walk_at "sms"
          refine tail ?_
          show plU _ = _
          unfold plU
          rw [q]
      | rest r r0 r1 =>
        obtain ⟨z, rfl, z0, z1⟩ := num_cases c2
        walk_at "sms"
        exact tail rfl
      | own u t u0 u1 =>
        obtain ⟨z, rfl, z0, z1⟩ := num_cases c2
        walk_at "sms"
        exact tail rfl
end

def iL (lo : Int) (k : Nat) : List Int := (List.range k).map fun (i : Nat) => lo + (i : Int)
theorem rangeL_iL (lo : Int) (k : Nat) : rangeL lo k = (iL lo k).map .int := rangeL_eq k lo
theorem mem_iL {lo x : Int} {k : Nat} : x ∈ iL lo k ↔ lo ≤ x ∧ x < lo + k := by
  unfold iL
  rw [List.mem_map]
  constructor
  · rintro ⟨i, hi, rfl⟩
    have := List.mem_range.mp hi
    omega
  · rintro ⟨h1, h2⟩
    exact ⟨(x - lo).toNat, List.mem_range.mpr (by omega), by omega⟩
def shK : List (Int × Int) := (List.range 31).flatMap fun i => shL (i + 1)
def abK (f : Int) : List (Int × Int) := (List.range 31).flatMap fun t => abL f t
def rtK : List (Nat × Nat) := (List.range 21).flatMap fun m => ((List.range m).map fun i => (i, m)) ++ (List.range (m + 1)).map fun j => (m, j)
def whK : List Int := 0 :: (iL 1 209).flatMap fun x => [x, 0 - x]
theorem wh_at : ∀ n, n < 401 → whK[n]? = some (wholeAt n) := by
  have : ((List.range 401).all fun n => whK[n]? == some (wholeAt n)) = true := by decide +kernel
  intro n hn
  have := List.all_eq_true.mp this n (List.mem_range.mpr hn)
  simpa using this
def pairAt (L : List D) (p : Nat × Nat) : D := .tup [L.getD p.1 .non, L.getD p.2 .non]
theorem int_w {i : Int} (h : i.natAbs ≤ 100000) : okD 0 (.int i) = true ∧ okI 500 (.int i) = true ∧ rlen 500 (.int i) ≤ 501 := ⟨rfl, decide_eq_true (Nat.lt_of_le_of_lt h (Nat.lt_of_lt_of_le (show 100000 < 10 ^ 6 by decide) (Nat.pow_le_pow_right (by decide) (by decide)))), Nat.le_refl _⟩
theorem wr_int {i : Int} (h : i.natAbs ≤ 100000) : Wr (.int i) := ⟨rfl, (int_w h).2.1, Nat.le_of_ble_eq_true rfl, rfl⟩
theorem toD_w {p : Int × Int} (h : p.1.natAbs ≤ 100000) (h2 : p.2.natAbs ≤ 100000) : okD 58 (toD p) = true ∧ okI 500 (toD p) = true ∧ rlen 500 (toD p) ≤ 2000 := by
  refine ⟨rfl, ?_, ?_⟩
  · show (okI 500 (.int p.1) && (okI 500 (.int p.2) && true)) = true
    rw [(int_w h).2.1, (int_w h2).2.1]
    rfl
  · show (501 + 2 + (501 + 2 + 0)) + 3 ≤ 2000
    decide
theorem wr_toD {p : Int × Int} (h : p.1.natAbs ≤ 100000) (h2 : p.2.natAbs ≤ 100000) : Wr (toD p) := ⟨rfl, (toD_w h h2).2.1, Nat.le_trans (toD_w h h2).2.2 (Nat.le_of_ble_eq_true rfl), rfl⟩
theorem wr_two {p q : Int × Int} (h : p.1.natAbs ≤ 100000) (h2 : p.2.natAbs ≤ 100000) (h3 : q.1.natAbs ≤ 100000) (h4 : q.2.natAbs ≤ 100000) : Wr (.tup [toD p, toD q]) := by
  refine ⟨rfl, ?_, ?_, rfl⟩
  · show (okI 500 (toD p) && (okI 500 (toD q) && true)) = true
    rw [(toD_w h h2).2.1, (toD_w h3 h4).2.1]
    rfl
  · show (rlen 500 (toD p) + 2 + (rlen 500 (toD q) + 2 + 0)) + 3 ≤ LINE
    have a := (toD_w h h2).2.2
    have b := (toD_w h3 h4).2.2
    exact Nat.le_trans (show _ ≤ 5000 by omega) (Nat.le_of_ble_eq_true rfl)
theorem wholeAt_sm {n : Nat} (h : n ≤ 400) : (wholeAt n).natAbs ≤ 100000 := by
  unfold wholeAt
  split <;> omega
theorem sure_small : ∀ d ∈ sureD, Wr d := by
  have : ∀ p ∈ sureP, p.1.natAbs ≤ 100000 ∧ p.2.natAbs ≤ 100000 := by decide +kernel
  intro d hd
  obtain ⟨p, hp, rfl⟩ := List.mem_map.mp hd
  exact wr_two (p := (p.1, 1)) (q := (p.2, 1)) (this p hp).1 (show (1 : Int).natAbs ≤ 100000 by decide) (this p hp).2 (show (1 : Int).natAbs ≤ 100000 by decide)
theorem AtW.wr {kd d : D} {n : Nat} (h : AtW kd n d) (hn : n ≤ 400) : Wr d := by
  cases h with
  | whole => exact wr_int (wholeAt_sm hn)
  | share h =>
    obtain ⟨p, rfl, _, _, _, h1, h2⟩ := h.pl
    exact wr_toD (by omega) (by omega)
  | root x h =>
    obtain ⟨p, q, rfl, _, _, _, h1, h2, _, _, h3, h4⟩ := h.pl
    exact wr_two (by omega) (by omega) (by omega) (by omega)
  | about f f0 h =>
    obtain ⟨p, rfl, _, _, h1, h2⟩ := h.pl f0
    exact wr_toD (by omega) (by omega)
  | sure x h => exact sure_small _ (List.mem_of_getElem? h)
  | rest x h1 h2 => exact wr_int (by omega)
  | own u t h1 h2 => exact wr_int (by omega)
theorem range_at {m n : Nat} (h : n < m) : (rangeL 0 m)[n]? = some (.int (n : Int)) := by
  rw [rangeL_iL]
  unfold iL
  rw [List.getElem?_map, List.getElem?_map, List.getElem?_range h]
  show some (D.int (0 + (n : Int))) = _
  rw [Int.zero_add]
theorem shK_21 : 21 ≤ shK.length := by decide +kernel

def sumN (g : Nat → Nat) (t : Nat) : Nat := ((List.range t).map g).sum
theorem sumN_succ (g : Nat → Nat) (t : Nat) : sumN g (t + 1) = sumN g t + g t := by
  unfold sumN
  rw [List.range_succ, List.map_append, List.sum_append]
  simp
theorem sumN_mono (g : Nat → Nat) {m t : Nat} (h : m ≤ t) : sumN g m ≤ sumN g t := by
  induction t with
  | zero => rw [Nat.le_zero.mp h]; exact Nat.le_refl _
  | succ t ih =>
    rcases Nat.lt_or_ge m (t + 1) with h1 | h1
    · have := ih (by omega)
      rw [sumN_succ]
      omega
    · rw [show m = t + 1 by omega]
      exact Nat.le_refl _
theorem flat_sum {α : Type} (g : Nat → List α) (m : Nat) : ((List.range m).flatMap g).length = sumN (fun i => (g i).length) m := by
  induction m with
  | zero => rfl
  | succ m ih =>
    rw [List.range_succ, List.flatMap_append, List.length_append, ih, sumN_succ]
    simp
theorem flat_at {α : Type} (g : Nat → List α) {m t k : Nat} {p : α} (h : (g t)[k]? = some p) (ht : t < m) : ((List.range m).flatMap g)[sumN (fun i => (g i).length) t + k]? = some p := by
  have hk : k < (g t).length := (List.getElem?_eq_some_iff.mp h).1
  induction m with
  | zero => omega
  | succ m ih =>
    rw [List.range_succ, List.flatMap_append]
    have e1 : [m].flatMap g = g m := by simp
    rw [e1]
    rcases Nat.lt_or_ge t m with h1 | h1
    · have hlt : sumN (fun i => (g i).length) t + k < ((List.range m).flatMap g).length := by
        rw [flat_sum]
        have := sumN_mono (fun i => (g i).length) (show t + 1 ≤ m from h1)
        rw [sumN_succ] at this
        omega
      rw [List.getElem?_append_left hlt]
      exact ih h1
    · have e2 : t = m := by omega
      subst e2
      rw [List.getElem?_append_right (by rw [flat_sum]; omega), flat_sum]
      rw [show sumN (fun i => (g i).length) t + k - sumN (fun i => (g i).length) t = k by omega]
      exact h
theorem flat_in {α : Type} (g : Nat → List α) {m t k n : Nat} (hn : sumN (fun i => (g i).length) t + k = n) (h : n < ((List.range m).flatMap g).length) : t < m := by
  rw [flat_sum] at h
  rcases Nat.lt_or_ge t m with h1 | h1
  · exact h1
  · have := sumN_mono (fun i => (g i).length) h1
    omega
theorem sh_at {n : Nat} {d : D} (h : AtS n d) (hn : n < shK.length) : (shK.map toD)[n]? = some d := by
  obtain ⟨t, k, p, h1, h2, h3, h4, rfl⟩ := h
  obtain ⟨s, rfl⟩ : ∃ s, t = s + 1 := ⟨t - 1, by omega⟩
  have e : sumN (fun i => (shL (i + 1)).length) s + k = n := by
    rw [← h4, off_sum]
    rfl
  have hs := flat_in (fun i => shL (i + 1)) e hn
  have := flat_at (fun i => shL (i + 1)) h3 hs
  rw [e] at this
  rw [List.getElem?_map]
  show Option.map toD shK[n]? = _
  have e2 : shK[n]? = some p := this
  rw [e2]
  rfl
theorem ab_at {f : Int} {n : Nat} {d : D} (h : AtA f n d) (hn : n < (abK f).length) : ((abK f).map toD)[n]? = some d := by
  obtain ⟨t, k, p, h1, h3, h4, rfl⟩ := h
  have e : sumN (fun i => (abL f i).length) t + k = n := by
    rw [← h4, offA_sum]
    rfl
  have hs := flat_in (fun i => abL f i) e hn
  have := flat_at (fun i => abL f i) h3 hs
  rw [e] at this
  rw [List.getElem?_map]
  have e2 : (abK f)[n]? = some p := this
  rw [e2]
  rfl
def rtG (m : Nat) : List (Nat × Nat) := ((List.range m).map fun i => (i, m)) ++ (List.range (m + 1)).map fun j => (m, j)
theorem rtG_len (m : Nat) : (rtG m).length = 2 * m + 1 := by
  unfold rtG
  rw [List.length_append, List.length_map, List.length_map, List.length_range, List.length_range]
  omega
theorem rt_sum (m : Nat) : sumN (fun i => (rtG i).length) m = m * m := by
  induction m with
  | zero => rfl
  | succ m ih =>
    rw [sumN_succ, ih, rtG_len, Nat.add_mul, Nat.mul_add]
    omega
theorem rt_at {i j n : Nat} (hi : i ≤ 20) (hj : j ≤ 20) (hn : n = max i j * max i j + (if i < max i j then i else max i j + j)) : rtK[n]? = some (i, j) := by
  show ((List.range 21).flatMap rtG)[n]? = some (i, j)
  by_cases h : i < j
  · have e : max i j = j := by omega
    rw [e, if_pos h] at hn
    have h1 : (rtG j)[i]? = some (i, j) := by
      unfold rtG
      rw [List.getElem?_append_left (by rw [List.length_map, List.length_range]; exact h), List.getElem?_map, List.getElem?_range h]
      rfl
    have := flat_at rtG h1 (show j < 21 by omega)
    rw [rt_sum, ← hn] at this
    exact this
  · have e : max i j = i := by omega
    rw [e, if_neg (by omega)] at hn
    have h1 : (rtG i)[i + j]? = some (i, j) := by
      unfold rtG
      rw [List.getElem?_append_right (by rw [List.length_map, List.length_range]; omega), List.length_map, List.length_range, show i + j - i = j by omega, List.getElem?_map, List.getElem?_range (by omega)]
      rfl
    have := flat_at rtG h1 (show i < 21 by omega)
    rw [rt_sum, ← hn] at this
    exact this

def measA : D → Int
  | .int z => z.natAbs
  | .tup [.int a, .int b] => (a.natAbs : Int) + b.natAbs
  | _ => 0
def measR : D → Int
  | .tup [.tup [.int a, .int b], .tup [.int c, .int e]] => ((max (plS (a, b)) (plS (c, e)) : Nat) : Int)
  | _ => 0
def measU : D → Int
  | .tup [.tup [.int a, _], .tup [.int c, _]] => c - a
  | _ => 0
def measV : D → D → Int
  | .tup [.str w, .int _], d => if w = wRoot then measR d else if w = wSure then measU d else measA d
  | _, d => measA d
def rowS : List D := (shK.take 401).map toD
def rowH : List D := (whK.take 401).map .int
def rowRt : List D := (rtK.take 401).map (pairAt (shK.map toD))
def rowA (f : Int) : List D := ((abK f).take 401).map toD
def rowW : D → List D
  | .tup [.str w] => if w = wWhole then rowH else rowS
  | .tup [.str w, .int x] => if w = wRest then rangeL 0 x.toNat else if w = wRoot then rowRt else if w = wSure then sureD else rowA x
  | .tup [.str _, .tup u, _] => rangeL 0 u.length
  | _ => []
def riseB : List Int → Bool
  | a :: b :: l => decide (a ≤ b) && riseB (b :: l)
  | _ => true
def okW (w : List D) : Bool := okL 59 w && (w.all isTupB && (w.all (fun d => nkB 8 (nkD d)) && unlikeB w))
def winC : List D → Bool
  | [] => true
  | d :: l => okW ((d :: l).take 6) && winC l
def rowOk (n : Nat) (m : D → Int) (R : List D) : Bool := decide (R.length = n) && (riseB (R.map m) && winC R)
theorem riseP : ∀ {l : List Int}, riseB l = true → l.Pairwise (· ≤ ·)
  | [], _ => .nil
  | [a], _ => List.pairwise_singleton _ _
  | a :: b :: l, h => by
    have h : (decide (a ≤ b) && riseB (b :: l)) = true := h
    rw [Bool.and_eq_true, decide_eq_true_iff] at h
    have ih := riseP h.2
    refine List.pairwise_cons.mpr ⟨fun x hx => ?_, ih⟩
    rcases List.mem_cons.mp hx with rfl | hx
    · exact h.1
    · exact Int.le_trans h.1 ((List.pairwise_cons.mp ih).1 x hx)
theorem winP : ∀ {l : List D} {a : Nat}, winC l = true → okW ((l.drop a).take 6) = true
  | [], a, _ => by
    rw [List.drop_nil, List.take_nil]
    rfl
  | d :: l, 0, h => by
    have h : (okW ((d :: l).take 6) && winC l) = true := h
    rw [Bool.and_eq_true] at h
    exact h.1
  | d :: l, a + 1, h => by
    have h : (okW ((d :: l).take 6) && winC l) = true := h
    rw [Bool.and_eq_true] at h
    exact winP (l := l) (a := a) h.2
def okV (w : List D) : Bool := okL 59 w && (w.all isIntB && decide (w.map intV).Nodup)
def winV : List D → Bool
  | [] => true
  | d :: l => okV ((d :: l).take 6) && winV l
theorem winVP : ∀ {l : List D} {a : Nat}, winV l = true → okV ((l.drop a).take 6) = true
  | [], a, _ => by
    rw [List.drop_nil, List.take_nil]
    rfl
  | d :: l, 0, h => by
    have h : (okV ((d :: l).take 6) && winV l) = true := h
    rw [Bool.and_eq_true] at h
    exact h.1
  | d :: l, a + 1, h => by
    have h : (okV ((d :: l).take 6) && winV l) = true := h
    rw [Bool.and_eq_true] at h
    exact winVP (l := l) (a := a) h.2
def rowOkV (n : Nat) (R : List D) : Bool := decide (R.length = n) && (riseB (R.map measA) && winV R)
theorem row_H : rowOkV 401 rowH = true := by decide +kernel
theorem row_S : rowOk 401 measA rowS = true := by decide +kernel
theorem row_U : rowOk 15 measU sureD = true := by decide +kernel
theorem row_N : ∀ n, n < 13 → rowOkV n (rangeL 0 n) = true := by
  have h : ∀ n ∈ List.range 13, rowOkV n (rangeL 0 n) = true := by decide +kernel
  exact fun n hn => h n (List.mem_range.mpr hn)
theorem row_A1 : rowOk 401 measA (rowA 1) = true := by decide +kernel
theorem row_A2 : rowOk 401 measA (rowA 2) = true := by decide +kernel
theorem row_A3 : rowOk 401 measA (rowA 3) = true := by decide +kernel
theorem row_Rt : rowOk 401 measR rowRt = true := by decide +kernel

def winN (b : Bool) : Nat → List Int → Bool
  | 0, _ => true
  | _ + 1, [] => true
  | n + 1, d :: l => fullB (runT ((d :: l).take 6) (SetTable.fresh 0 0 b) #[]) ((d :: l).take 6).length && winN b n l
theorem winN_at {b : Bool} : ∀ {n : Nat} {l : List Int} {r : Nat}, winN b n l = true → r < n → fullB (runT ((l.drop r).take 6) (SetTable.fresh 0 0 b) #[]) ((l.drop r).take 6).length = true
  | 0, _, _, _, h => absurd h (Nat.not_lt_zero _)
  | n + 1, [], r, _, _ => by
    rw [List.drop_nil, List.take_nil]
    cases b <;> decide +kernel
  | n + 1, d :: l, 0, h, _ => by
    have h : (fullB (runT ((d :: l).take 6) (SetTable.fresh 0 0 b) #[]) ((d :: l).take 6).length && winN b n l) = true := h
    rw [Bool.and_eq_true] at h
    exact h.1
  | n + 1, d :: l, r + 1, h, hr => by
    have h : (fullB (runT ((d :: l).take 6) (SetTable.fresh 0 0 b) #[]) ((d :: l).take 6).length && winN b n l) = true := h
    rw [Bool.and_eq_true] at h
    exact winN_at (l := l) h.2 (by omega)
theorem set_of {hs : List Int} (h : ∀ b, fullB (runT hs (SetTable.fresh 0 0 b) #[]) hs.length = true) : setB hs = true := by
  unfold setB
  rw [h true, h false]
  rfl
theorem set_win {hs : List Int} {K a : Nat} (h : ∀ k, k < K → ∀ b, winN b 25 (hs.drop (25 * k)) = true) (ha : a < 25 * K) : setB ((hs.drop a).take 6) = true := by
  refine set_of fun b => ?_
  have q := winN_at (r := a % 25) (h (a / 25) (by omega) b) (Nat.mod_lt _ (by decide))
  rw [List.drop_drop, show 25 * (a / 25) + a % 25 = a from Nat.div_add_mod a 25] at q
  exact q
def hsS : List Int := [(-1950498447580522560), 8389048192121911274, 9083154820904886697, 6794810172467074373, 9083154820904886697, (-3550055125485641917), (-208276591052177797), 8756109708711196808, 7121855284660764262, (-1440771752368011620), 6299364165049820628, 159514286966033244, (-4060511182127078364), 3863035679738500442, 2228781255688067896, 8409376899596376432, 6299364165049820628, (-6333845781340707986), 1406290136077124262, 3453031638033610253, (-6021810718371200799), 173794974761290439, 7913930892179122687, 8062003079928221385, 6973142086358330893, (-5838399773923454241), 7531859326365654451, (-2624276368889032825), (-6844301837982144433), 1079245023883434373, (-555009400166998173), (-8422800446983873125), 7913930892179122687, (-4719279054211405927), (-8423529808412798632), (-7580621630451799004), 5011842550114208458, 669240982178544184, (-4407243991241898740), 7586885779985432798, 5952631355935000252, (-2609995681093775630), 5130140236324056618, 8429064596517506919, 1718325199046631449, 5973048414285056246, 118768521141512092, (-4223833046794152182), 2100396764860099685, (-1009709641759730766), (-5229735110852842374), 7240152970870612422, 5130140236324056618, 3897645075008222795, (-6808963081283496573), (-167530825227656645), (-8131823452917756603), 8082331787402686543, 6626409277243510517, 4803095124130366729, 7567198083064302311, (-995428953964473571), 6744706963453358677, 3125986525839920364, (-5694765606177510910), (-5060604854200353011), 5421846591819098647, (-8403112750062742638), 3332891926175933508, 3189257758429990177, 1733335248270814151, (-153250137432399450), 5803918157632566883, (-7007623702649218251), (-683393890994966384), (-3793500297614796835), (-8013525766707908443), (-7136008193477186462), (-4371905234543250880), 8854719697999914481, 6744706963453358677, 5512211802137524854, 8853990336570988974, (-5470608895905243200), 2901829815567652654, (-8749845559177563014), 3842618621388444448, (-499982946547219826), (-5576467919967662750), (-3779219609819539640), 3960916307598292608, (-7907666742645488893), (-391687535499924355), 3684703765847243922, (-1991244213405043712), 342195869984854295, (-4080198879048208851), 3556319275019275711, 7036413318948400706, 7259840667791742909, 549101270320867439, (-2242204803075564589), (-8096484696219108743), 1461316589696902609, 3020127501777500814, 6007657809554778599, 931172836134335675, (-2178933570485494776), (-6398959039578606384), (-5521441466347884403), (-7155695890398316949), 6070929042144848412, 3960916307598292608, 2728421146282458785, (-7978187010009260583), 8102019484323817030, 8204907886245239209, (-8254399551760309269), 4516396542696954713, (-1336754753953420655), 9145696692066031003, 1114583780582082233, (-8360258575822728819), 3633871195404602719, 6397974154338538301, (-2164652882690237581), (-1470546253907262158), 5235999260386476168, (-7804778340724066714), 3208945455351120664, 3311833857272542843, 5299270492976545981, (-376677486275741653), 8874407394921044968, 2163667997450169498, (-5025995458930630658), (-6481917969089806684), 6437990558734133946, 2217965089641022338, 639466480639293646, (-1470546253907262158), 4342987873411760844, 7684766407845224964, 2798941413646230475, (-5367720493983821021), (-8730157862256432527), (-8627269460335010348), (-6639832824631007210), 1732605886841888644, (-4120545409808486724), (-7686480654514218554), 8527674585806224592, 2673394692662680438, (-1669206875272983836), 4655022936381268031, (-1797591366100952047), (-3431845790151384593), 6452271246529391141, (-4254336909762328227), (-5797654008098933089), 3228874927761342543, (-2094132615326465891), 8185949550753034229, 2452208604531410099, (-6190211613594764655), 4823512182480422723, 4926400584401844902, (-9076890671371252903), (-1560911464225688365), (-132192068529008785), (-3160468142130807722), 3571329324243458413, (-5249422807773972861), 2387095346293511701, (-1178839898412220129), 6090616739065978899, (-7666151947039753396), (-3411428731801328599), 9181035448764678863, 292092660971138599, 1850903573051736804, 4838433880829014589, (-238051092591428335), 8052557285863436005, 3832531816770324397, (-6690665395073648413), (-8324919819124080959), (-2144324175215772423), (-4254336909762328227), 1559197217556694775, (-9147410938735024593), (-8234711854839178782), (-64642423306234466), 6932795555598053020, (-7012702733205708289), 9023120593223478337, 3347172613971190703, 5743883929951158523, 4287961419791982497, (-54640148143681777), 1871232280526201962, 8066837973658693200, (-2639770182633026168), 7346011994933031972, 8531952998438929098, 5318958189897676468, (-4957716452278930832), (-4183087280969631030), 4843441654890644602, (-479565888197163832), 5402158894897968160, 4066775331660712158, (-8974002269449830724), (-5006307762009500171), (-4903419360088077992), (-7462323944241950844), 53655262903613694, (-2915982724384074854), (-8591930703636362488), 787538668388392344, (-8033213463629038930), 4001662073422813760, (-3962630554267286198), 7705183466195280958, (-6051585219910451337), (-6195219387656394668), (-7651141897815570694), (-2491697994883927470), (-3580558988453817962), 6453000607958316648, (-3021841748446494404), 5268766630008369936, 1048741160915258328, 8972288022780837134, (-6710353091994778900), (-529757448086470364), (-2639770182633026168), 3173763944685996834, 6515542479119460954, 4908954148192786279, (-7477733228530376825), (-6620145127709876723), (-2848433079161300535), 8547362282727355079, 8650250684648777258, (-7809056753356771220), 563381958116124634, 6110945446540444057, 2545010201834712227, 312421368445603757, (-5541858524697940397), (-2966815294826716057), (-4601069718877148603), 5283047317803627131, (-5423560838488092237), 6870253684436908714, 9007711308935052356, 15880119220089913, 6075936816206478425, 6933524917026978527, 3659207676940697890, (-6966877936824697099), 2059650999035578533, (-3391741034880198112), (-3288852632958775933), (-1301415997254772795), 7071022714218123059, 2402105395517694403, 4982068048574957920, (-2124636478294641936), (-8835375875765517406), 3669209952103250579, (-1407275021317192345), 6883333357137671995, 2663307888044560387, (-3313548103941536433), (-5423560838488092237), 389973288830930765, 1084079917613906188, (-6124699120292622978), (-2174655157852790270), 6523520875322088338, 8185220189324108722, 9042808290144608824, (-1233866352031998476), 3244284212049768524, 9126008995144900516, 5763571626872289010, (-8181926661931472299), 7725512173669746116, 4159576928964014286, (-2471369287409462312), (-3927291797568638338), (-8269893365504302612), 5100365734784806080, (-1352248567697413998), (-2986502991747846544), 6897614044932929190, (-3808994111358790178), 4214847519409810856, 262402688887455423, 7428970924444232272, (-7067729186825486636), 4086463028581842645, (-7824466037645197201), (-2767910536634976156), 3292146160351412356, 6176788066207267962, 7362729069713165088, (-2896295027462944367), 5273774404069999949, (-5352311209695395040), 3674217726164880592, (-8694819105557784667), (-2813094322462652675), 2897551402934948148, 8303517875533956882, (-6175531690735264181), (-6072643288813842002), (-8631547872967714854), (-8161597954457007141), (-4085206653109838864), 8685589441347425118, (-381685260337371666), 2198277392719891851, 2832438144697049750, (-5131854482993050208), (-510069751165339877), (-7220809148636215347), (-7364443316382158678), (-8820365826541334704), 7739792861465003311, (-4749782917179581972), 5283776679232552638, 7209649107902436377, 4099542701282605926, (-120482767810505682), 757034805420216299, 3521137764354151881, (-1698981376812234374), (-3808994111358790178), (-5041489272674624001), 2698646644743208247, 7018966882739342083, 8858998110632618987, 3739730219467022269, (-8646957157256140835), (-7789369056435640733), (-4017657007887064545), 7378138354001591069, 7481026755923013248, 2422434102992159561, (-7651871259244496201), (-856802560280160253), (-6711082453423704407), 7393060052350182935, 2316575078929740011, 4113823389077863121, (-6592784767213856247), 4581909035999096390, (-7150688116336686936), 2125892853766645717, 3965924081659922621, (-1216615042095743910), (-2521387966967610646), 9043537651573534331, 1549194942394142086, (-1153343809505674097), (-2139316401154142410), 3392997410352201893, 8977295796842467147, (-1281728300333642308), 2489983748214933880, (-8136101865550461109), 890427070309814523, 4512118130064250207, (-8528659471046292675), (-4560964963605962122), (-4458076561684539943), (-14623743748086132), 7501355463397478406, (-2470639925980536805), 5901798785492359049, 48647488841983681, (-3517287755863748149), (-3293860407020405946), 8442144269218270200, 5650838195821838172, 6842587591313150843, (-9092384485115246246), (-7533573573034648041), 5714109428411907985, 1494083959318796377, 2371601532549518358, 737347108499085812, (-4482772032667300443), (-6592784767213856247), (-7825279928529690070), (-85144011111857822), (-4014686385746067174), (-4284667892399346074)]
theorem hsS_ok : (rowS).map hashD = hsS := by decide +kernel
theorem wS_0 (b : Bool) : winN b 25 (hsS.drop 0) = true := by kernel_rfl
theorem wS_1 (b : Bool) : winN b 25 (hsS.drop 25) = true := by kernel_rfl
theorem wS_2 (b : Bool) : winN b 25 (hsS.drop 50) = true := by kernel_rfl
theorem wS_3 (b : Bool) : winN b 25 (hsS.drop 75) = true := by kernel_rfl
theorem wS_4 (b : Bool) : winN b 25 (hsS.drop 100) = true := by kernel_rfl
theorem wS_5 (b : Bool) : winN b 25 (hsS.drop 125) = true := by kernel_rfl
theorem wS_6 (b : Bool) : winN b 25 (hsS.drop 150) = true := by kernel_rfl
theorem wS_7 (b : Bool) : winN b 25 (hsS.drop 175) = true := by kernel_rfl
theorem wS_8 (b : Bool) : winN b 25 (hsS.drop 200) = true := by kernel_rfl
theorem wS_9 (b : Bool) : winN b 25 (hsS.drop 225) = true := by kernel_rfl
theorem wS_10 (b : Bool) : winN b 25 (hsS.drop 250) = true := by kernel_rfl
theorem wS_11 (b : Bool) : winN b 25 (hsS.drop 275) = true := by kernel_rfl
theorem wS_12 (b : Bool) : winN b 25 (hsS.drop 300) = true := by kernel_rfl
theorem wS_13 (b : Bool) : winN b 25 (hsS.drop 325) = true := by kernel_rfl
theorem wS_14 (b : Bool) : winN b 25 (hsS.drop 350) = true := by kernel_rfl
theorem wS_15 (b : Bool) : winN b 25 (hsS.drop 375) = true := by kernel_rfl
theorem wS_16 (b : Bool) : winN b 25 (hsS.drop 400) = true := by kernel_rfl
theorem wS : ∀ k, k < 17 → ∀ b, winN b 25 (hsS.drop (25 * k)) = true
  | 0, _ => wS_0
  | 1, _ => wS_1
  | 2, _ => wS_2
  | 3, _ => wS_3
  | 4, _ => wS_4
  | 5, _ => wS_5
  | 6, _ => wS_6
  | 7, _ => wS_7
  | 8, _ => wS_8
  | 9, _ => wS_9
  | 10, _ => wS_10
  | 11, _ => wS_11
  | 12, _ => wS_12
  | 13, _ => wS_13
  | 14, _ => wS_14
  | 15, _ => wS_15
  | 16, _ => wS_16
  | n + 17, h => absurd h (by omega)
def hsRt : List Int := [5002585986996421116, (-3946460631932601386), (-800863425494217020), 6049162123635823397, 5345063702710134221, (-3106057615430992612), 3345063042036334817, (-8251655482543176382), (-3358488530884808903), (-7868653911774183471), (-2271388539190126816), 1874537928340425021, 3820705500296231484, (-7776013024283279715), 1515511310359455892, 2350180386600321688, 5345063702710134221, (-3106057615430992612), (-3358488530884808903), 1515511310359455892, 3345063042036334817, (-8251655482543176382), (-3358488530884808903), 1874537928340425021, (-3358488530884808903), (-6656892016142386837), (-1059626643558330182), 3086299823972221655, 3561942282232118322, 3086299823972221655, (-6432310090824253359), 417715458305787058, (-8737504280761028951), (-7902835204520163155), (-8737504280761028951), (-6691073308888366521), (-7472637742296591999), (-1875372369712535344), 2270554097818016493, 2746196556077913160, 2270554097818016493, (-7506819035042571683), 2308223629764014174, 9158249178894054591, 3029439827238582, 837698516068104378, 3029439827238582, 2049460411699901012, 1233714685545695850, 6551727137593693829, (-6297751563531801132), (-2151825096001249295), (-1676182637741352628), (-2151825096001249295), 6517545844847714145, (-3188664508273569938), (-2457475017406248625), (-5806851260576336), (-9161026590327392345), (-3928000131102158421), (-9161026590327392345), (-2716238235470361787), (-3531983961624566949), (-7954363155443832737), (-9075317346657743079), 920305408910681704, 5066231876441233541, 5541874334701130208, 5066231876441233541, (-4711141256419354635), 4029392464168912898, (-736306183001349901), 2577214271103958101, (-1973474964840696273), 7318049369802039334, (-5895668244682278358), 7318049369802039334, (-4683906349050481724), 8548734615520496602, 4126355421701230814, (-7102331679565837966), (-1631570573818778074), (-3036662603325048082), 1109263864205503755, (-5461122966169456403), 1109263864205503755, 2732605516419610370, 72424451933183112, (-9091631578221447815), 341415093273127039, (-2444098610432799435), 7569555712872854, (-2101620894719086330), 3131405564506147594, (-2101620894719086330), 4343167460137944228, (-7916964937635485887), (-894957459835526722), 1924742129622587986, (-9078255171247998625), 3865317564218806038, (-4585803753922320795), (-439877286391768958), 35765171868127709, (-439877286391768958), 8229493654457194482, (-1476716698664089601), (-3594743440183863703), 5838303231310711151, (-3581367033210414513), 1504096724615441132, 8354122273745481549, (-5199454848305702588), 33571610919531336, (-5199454848305702588), 1245333506551327970, 429587780397122808, (-3992791413422142980), 3225265559020339856, (-5130059836199758058), (-6679200986797030771), 5147531525338749523, (-3303589792802377310), (-3556020708256193601), 1317979132988071194, (-3556020708256193601), (-8935036458132413649), (-194502737544146116), 9088185306010774573, 7120517192430654636, (-2299153072090471028), (-5396987025677087286), 196492071978245035, 2648160238123917324, (-6507059500942898685), (-1274033041717664761), (-6507059500942898685), 6983758142548988698, (-878016872240073289), (-5300396066059339077), 4565332812033632456, (-6437664488836954155), (-940776350799370043), (-6704591678314283383), 7505312354304581406, (-945808963836545427), 3200117503694006410, 3675759961953903077, 3200117503694006410, (-6577255629166581766), 2163278091421685767, (-2602420555748577032), (-8968446052313065097), 58627756875360855, 1359151186273112725, 2699218439286405325, 6296814232660168023, (-5299904291919343176), 3991620042723392431, 4826289118964258227, 3991620042723392431, 6038051014596054861, 5222305288441849699, 799926094622583911, 8017983067065066747, 4061015054829336961, 2511873904232064248, 3794087865352007733, 6151868694317839616, 46659556778756883, 5643924929362813538, (-8656892676816186241), (-8181250218556289574), (-8656892676816186241), 12478264032777199, 8753011984621044732, 3987313337450781933, (-2378712159113706132), (-7400025040650463668), 7948885079472471690, 6641280426835275593, (-5705141486192353035), 1781844155032643983, 4233512321178316272, (-4921707417888499737), 311319041336734187, (-4921707417888499737), 1523080936968530821, (-3691022172170042469), (-3715043983004940129), (-895344393546825421), (-4852312405782555207), (-6401453556379827920), (-5119239595259884435), (-2761458766294052552), 3828275126905306413, 2866359146236871591, (-5584762171904255242), (-1438835704373703405), (-963193246113806738), (-1438835704373703405), 7230535236475260035, (-2475675116646024048), (-4593701858165798150), 4839344813328776704, (-4580325451192348960), (-7678159404778965218), (-1939734768781304490), 1512915486250129801, (-7400411974361762367), 6816533443542850709, (-9178542464021028618), 7159011159256563814, (-6054706455227753878), 7159011159256563814, (-4842944559595957244), (-5658690285750162406), 8365674594140123422, (-2863012507126945358), 182376882727651519, 5679265020765235631, 6961478981885179116, (-4729126879874172489), 1860607013325186476, 4680306602783301184, 8408620485545502573, (-4440858215579992388), (-294931748049440551), 180710710210456116, (-294931748049440551), 8374439192799522889, (-1331771160321761194), (-6097469807492023993), 5983248769653039558, (-6084093400518574803), (-2135898065470334236), (-3443502718107530333), 2656819442574392655, (-6256508018037499513), 3176538653457075341, 209868478951694225, (-8739178139977328277), 552346194665407330, 5785372653890641254, 552346194665407330, 6997134549522437888, 1783031440383864598, 1759009629548966938, 4578709219007081646, (-6424288081863504965), (-927399943825920853), 354814017294022632, 2712594846259854515, (-9144415334250338136), (-1926358361807855300), (-7828483694118449271), 3865317564218806038, (-4585803753922320795), (-439877286391768958), 35765171868127709, (-439877286391768958), 8229493654457194482, (-1476716698664089601), (-3594743440183863703), 5838303231310711151, (-3581367033210414513), (-6679200986797030771), (-940776350799370043), 2511873904232064248, (-6401453556379827920), 5679265020765235631, (-927399943825920853), 1504096724615441132, 8354122273745481549, (-5199454848305702588), 33571610919531336, (-5199454848305702588), 1245333506551327970, 429587780397122808, (-3992791413422142980), 3225265559020339856, (-5130059836199758058), (-6679200986797030771), (-5396987025677087286), 1359151186273112725, 7948885079472471690, (-7678159404778965218), (-2135898065470334236), (-6679200986797030771), (-8136638154633715020), 4506656506585198460, 8652582974115750297, 9128225432375646964, 8652582974115750297, (-8170819447379694704), 7615743561843429654, 2850044914673166855, (-6163652487541809907), 2863421321646616045, 6811616656694856612, 5504012004057660515, (-6842409908969968113), 7089364087112059463, (-6322690698087285427), 5517388411031109705, 6811616656694856612, 3127438376829547747, (-1423250859115106627), 7868273475527628980, 8702942551768494776, 7868273475527628980, (-8532039626309260206), 9098958721246086248, 4676579527426820460, (-6552107573840248320), 891639198998716685, 6388527337036300797, 3272383915171876154, (-8418221946587475451), (-1828488053388116486), 5389568919054366350, 6533472875378629204, 6388527337036300797, 8434958308908963227, (-2639750016596130908), 2957515355987925747, 7103441823518477584, 7579084281778374251, 7103441823518477584, (-2673931309342110592), 6066602411246156941, 8346933052710750967, (-666764349504225795), 8360309459684200157, 5262475506097583899, (-7445843931614306989), (-8391551059567240826), (-5860491848559908041), (-825802560049701315), (-7432467524640857799), 5262475506097583899, (-4514897626763004277), 7075633711877788314, (-4521084812701722885), 4770439521941012722, (-8443278092543304970), 4770439521941012722, (-7231516196911508336), 6001124767659469990, 1578745573840204202, 8796802546282687038, 4839834534046957252, 3290693383449684539, 4572907344569628024, 6930688173535459907, (-4926322006974732744), 2291734965467750092, 3435638921792012946, 3290693383449684539, (-1665233046767979694), 3831655091269604418, (-2654550802635610181), (-8458000215126248317), (-4312073747595696480), (-3836431289335799813), (-4312073747595696480), 4357297193253266960, (-5348913159868017123), 8332132266671271694, (-5079922518528073196), 3947151290660352756, (-6153040065016590165), (-7460644717653786262), (-1360322556971863274), 8173094056125796174, (-840603346089180588), 6601118380044846416, (-6153040065016590165), (-4529698412802483550), (-581503077754242983), 750311366974836040, 7600336916104876457, (-1554882822961939552), (-7722571148811400419), (-1554882822961939552), (-6510809253179603785), (-324197577243482284), (-4746576771062748072), (-8929234583694960027), (-1485487810855995022), 4011400327181589090, 5293614288301532575, 7651395117267364458, 7195099721831866598, 3012441909199654643, (-2889683423110939328), 4011400327181589090, (-7990555391670931968), (-2493667253633347856), (-6906825422657195257), (-2516711312078927766)]
theorem hsRt_ok : (rowRt).map hashD = hsRt := by decide +kernel
theorem wRt_0 (b : Bool) : winN b 25 (hsRt.drop 0) = true := by kernel_rfl
theorem wRt_1 (b : Bool) : winN b 25 (hsRt.drop 25) = true := by kernel_rfl
theorem wRt_2 (b : Bool) : winN b 25 (hsRt.drop 50) = true := by kernel_rfl
theorem wRt_3 (b : Bool) : winN b 25 (hsRt.drop 75) = true := by kernel_rfl
theorem wRt_4 (b : Bool) : winN b 25 (hsRt.drop 100) = true := by kernel_rfl
theorem wRt_5 (b : Bool) : winN b 25 (hsRt.drop 125) = true := by kernel_rfl
theorem wRt_6 (b : Bool) : winN b 25 (hsRt.drop 150) = true := by kernel_rfl
theorem wRt_7 (b : Bool) : winN b 25 (hsRt.drop 175) = true := by kernel_rfl
theorem wRt_8 (b : Bool) : winN b 25 (hsRt.drop 200) = true := by kernel_rfl
theorem wRt_9 (b : Bool) : winN b 25 (hsRt.drop 225) = true := by kernel_rfl
theorem wRt_10 (b : Bool) : winN b 25 (hsRt.drop 250) = true := by kernel_rfl
theorem wRt_11 (b : Bool) : winN b 25 (hsRt.drop 275) = true := by kernel_rfl
theorem wRt_12 (b : Bool) : winN b 25 (hsRt.drop 300) = true := by kernel_rfl
theorem wRt_13 (b : Bool) : winN b 25 (hsRt.drop 325) = true := by kernel_rfl
theorem wRt_14 (b : Bool) : winN b 25 (hsRt.drop 350) = true := by kernel_rfl
theorem wRt_15 (b : Bool) : winN b 25 (hsRt.drop 375) = true := by kernel_rfl
theorem wRt_16 (b : Bool) : winN b 25 (hsRt.drop 400) = true := by kernel_rfl
theorem wRt : ∀ k, k < 17 → ∀ b, winN b 25 (hsRt.drop (25 * k)) = true
  | 0, _ => wRt_0
  | 1, _ => wRt_1
  | 2, _ => wRt_2
  | 3, _ => wRt_3
  | 4, _ => wRt_4
  | 5, _ => wRt_5
  | 6, _ => wRt_6
  | 7, _ => wRt_7
  | 8, _ => wRt_8
  | 9, _ => wRt_9
  | 10, _ => wRt_10
  | 11, _ => wRt_11
  | 12, _ => wRt_12
  | 13, _ => wRt_13
  | 14, _ => wRt_14
  | 15, _ => wRt_15
  | 16, _ => wRt_16
  | n + 17, h => absurd h (by omega)
def hsA1 : List Int := [(-8458139203682520985), (-5164621852614943976), 2575514064802888272, 4685526799349444076, 2575514064802888272, 8389048192121911274, 9083154820904886697, (-6779188579744246035), 960947337673586213, 2248468952609198383, 614214528558765837, 6794810172467074373, 9083154820904886697, 3070960072220142017, 960947337673586213, (-3550055125485641917), (-208276591052177797), (-6779188579744246035), 960947337673586213, (-6348126469135965181), 7878592135480474827, 8756109708711196808, 7121855284660764262, 5032259608464264452, 3398005184413831906, 1901736143494378007, (-208276591052177797), 3070960072220142017, 960947337673586213, (-1440771752368011620), 6299364165049820628, (-8888471952861876332), (-1148336035444044084), (-3054609118068388172), (-8131094091488831096), 159514286966033244, (-4060511182127078364), (-7962693196265267240), 6264025408351172768, 3863035679738500442, 2228781255688067896, 5032259608464264452, 3398005184413831906, 8409376899596376432, 6299364165049820628, (-3436680683881856408), (-1148336035444044084), (-6333845781340707986), 1406290136077124262, (-3995397923889179966), 3744737993528652282, (-5491666964808633865), 465501330256332468, 3453031638033610253, (-6021810718371200799), (-4669175845197690231), 8701083255091418461, (-9131917124991031250), 5094801479625408758, (-7962693196265267240), 6264025408351172768, 5972319052856130739, 8736422011790066321, (-1475381147637733973), (-3109635571688166519), 3516302870623680066, 1406290136077124262, 5854750728075208086, 3744737993528652282, 173794974761290439, 7913930892179122687, 7943705393718373225, (-2762902762573346143), 4358481687155754187, (-1495798205987789967), 8062003079928221385, 6973142086358330893, (-2707876308953567796), (-1149065396872969591), (-5838399773923454241), 7531859326365654451, (-4669175845197690231), 8701083255091418461, (-2624276368889032825), (-6844301837982144433), 1328738215691797254, 4154742035233542471, 1079245023883434373, (-555009400166998173), 3417692881334962393, 1783438457284529847, (-8422800446983873125), 7913930892179122687, (-652890028026790339), (-2762902762573346143), (-4719279054211405927), (-8423529808412798632), 1436064637616374800, 2130171266399350223, 1921423840415508494, (-4789315557055366976), (-7580621630451799004), 5011842550114208458, 2743914960026452128, 1287992449867276102, (-3877100237679331806), (-2318289325598733601), (-2707876308953567796), (-1149065396872969591), 669240982178544184, (-4407243991241898740), (-6778459218315320528), 2193442498989420036, 3883364387212965600, 6709368206754710817, (-5178902540410201171), 9047816064206238837, 7586885779985432798, 5952631355935000252, (-3089947874767036032), (-325844915833100450), (-6313517073866242828), (-8423529808412798632), 4240184000945906027, 2130171266399350223, (-2609995681093775630), 5130140236324056618, (-7719248024136112322), (-4377469489702648202), (-6675171581329655070), 8205637247674164716, 8429064596517506919, 1718325199046631449, 4705214496270574563, (-2005524901200300907), 5973048414285056246, 118768521141512092, 2743914960026452128, 1287992449867276102, 2630540518422666619, 4189351430503264824, (-9215517065055566221), (-3258348769990599888), (-4223833046794152182), 2100396764860099685, (-1885385189342624162), (-6961870162763067086), (-1009709641759730766), (-5229735110852842374), 6760200777197352020, 2540175308104240412, (-4352217537622120393), (-5986471961672552939), 6201483537190028462, 4567229113139595916, 7240152970870612422, 5130140236324056618, (-2267456755156092398), (-4377469489702648202), 3897645075008222795, (-6808963081283496573), 4219855293471440869, (-6486752862820278499), (-167530825227656645), (-8131823452917756603), (-3891380925474589001), 6591070520544862657, 3535990567544810553, (-3174748829926064917), 4705214496270574563, (-2005524901200300907), 8082331787402686543, 6626409277243510517, 634631586908821831, (-5219648306234722323), (-6660890893534397875), (-703722598469431542), (-4322443036082869855), 1634725258982096478, 2283807709307846243, (-7191034647096964809), (-8393025945444622587), 4977233154844486105, 1099573731357899531, (-3120451737735212077), (-6793469267539503230), 7433249337076936778, 4803095124130366729, 7567198083064302311, (-306157218911969963), (-1940411642962402509), (-4698950346736940769), (-6808963081283496573), (-4376740128273722695), (-6486752862820278499), (-995428953964473571), 6744706963453358677, 9112929322444137235, (-1593678833847582133), (-5060604854200353011), 5421846591819098647, (-3891380925474589001), 6591070520544862657, (-8403112750062742638), 3332891926175933508, (-1802426259831423862), 2887549127772395459, 3189257758429990177, 1733335248270814151, 5527705615881518197, (-326574277262025957), (-153250137432399450), 5803918157632566883, 7616660281524683336, (-4872915497119901947), (-7007623702649218251), (-683393890994966384), 3546077372162930604, (-8576436889892369145), (-3793500297614796835), (-8013525766707908443), 5145634050068049961, 5323965963959306481, (-7136008193477186462), (-4371905234543250880), (-6813797975013968388), (-8448052399064400934), 8854719697999914481, 6744706963453358677, 516333900698973671, (-1593678833847582133), 5512211802137524854, 8853990336570988974, 2605288566342138810, (-8101319589949580558), (-2951321481082722714), (-6517256725788454544), 1001693103498107365, 83429764442864232, 752199911689744484, 5442175299293563805, 3090647769141272504, (-3620091628329602966), (-8749845559177563014), 3842618621388444448, (-979935140220480228), (-2435857650379656254), (-5046324166405095816), (-3487513254324497611), 5507376908407053039, 20158531852794419, (-499982946547219826), (-5576467919967662750), (-5609235289589556518), 3362666427715184046, 2714140458487201590, (-1505885010605910018), (-4009678611684437161), (-8229704080777548769), 6417661851259668788, 4783407427209236242, (-1920723946041272022), 843379012892663560, (-7482741002592006838), 8853990336570988974, (-5991306855403024754), (-8101319589949580558), (-3779219609819539640), 3960916307598292608, (-6550024095410348312), (-3208245560976884192), 3556319275019275711, 7036413318948400706, (-5505947652603891060), (-9071882897309622890), 7259840667791742909, 549101270320867439, 981364396023642207, (-5729375001447233263), (-2242204803075564589), (-8096484696219108743), 3913138888752216138, 2457216378593040112, 1461316589696902609, 3020127501777500814, (-8046293136329802211), (-2089124841264835878), 6007657809554778599, 931172836134335675, 6329868028017996673, 8255740456687880412, (-2178933570485494776), (-6398959039578606384), 7929424705923116030, 3709399236830004422, (-5521441466347884403), (-7155695890398316949), (-8428364702143270447), (-5664261743209334865), 6070929042144848412, 3960916307598292608, (-1098232826430328388), (-3208245560976884192), 2728421146282458785, (-7978187010009260583), 5389079222197204879, (-5317528934094514489), (-1336754753953420655), 9145696692066031003, 6433155665003662131, 2867220420297930301, (-4679262649815810282), 7056742026422865864, 5874438424996338573, (-836300972474536897), 6913107858676922533, 5457185348517746507, 1803855515634585841, (-4050424377508958313), 3570599962814532906, (-8918975815830052377), 3892810181277750980, (-8596765597366834303), 1114583780582082233, (-8360258575822728819), (-7223802016718858577), 6146457083570250115, (-69650197367864479), 108681716523392041, 1421783949821117605, (-2798241519271994003), 3633871195404602719, 6397974154338538301, 863066709813794047, (-771187714236638499), (-5868174275462704779), (-7978187010009260583), (-3207516199547958685), (-5317528934094514489), (-2164652882690237581), (-1470546253907262158), (-1118561533904793546), (-424454905121818123), 5170886002148577770, (-2793406625541522188), (-2722156996748824991), 7760294449270626667, 8874407394921044968, 2163667997450169498, (-633202331105659852), (-7343941728576535322), (-5025995458930630658), (-6481917969089806684), (-4703785240467412584), 7888678940098594878, (-1322474066158163460), 4634694228906802873, 8785884210250447346, (-3703691568394137937), 7622224536684080658, (-1852617819720730394), 4715301300888694614, (-361183672531748310), 6437990558734133946, 2217965089641022338, 6314857978793813971, 6493189892685070491, (-8305232122202950472), (-5541129163269014890), (-5644574046288204378), (-7278828470338636924), 639466480639293646, (-1470546253907262158), 1685557829424737681, (-424454905121818123), 4342987873411760844, 7684766407845224964, 3774512495067902820, (-6932095661223816548), (-4120545409808486724), (-7686480654514218554), 9216946320858728200, 1252653693168628242, (-7463053305670876351), 4272951370567799795, (-7140843087207658277), (-2450867699603838956), 8527674585806224592, 2673394692662680438, 189288788505283782, (-1266633721653892244), 5185166689943834965, 6743977602024433170, 6676600837132817049, 8235411749213415254, (-1669206875272983836), 4655022936381268031, (-4440011360863792508), 4531890356440948056, 1544916529761437580, (-2675108939331674028)]
theorem hsA1_ok : (rowA 1).map hashD = hsA1 := by decide +kernel
theorem wA1_0 (b : Bool) : winN b 25 (hsA1.drop 0) = true := by kernel_rfl
theorem wA1_1 (b : Bool) : winN b 25 (hsA1.drop 25) = true := by kernel_rfl
theorem wA1_2 (b : Bool) : winN b 25 (hsA1.drop 50) = true := by kernel_rfl
theorem wA1_3 (b : Bool) : winN b 25 (hsA1.drop 75) = true := by kernel_rfl
theorem wA1_4 (b : Bool) : winN b 25 (hsA1.drop 100) = true := by kernel_rfl
theorem wA1_5 (b : Bool) : winN b 25 (hsA1.drop 125) = true := by kernel_rfl
theorem wA1_6 (b : Bool) : winN b 25 (hsA1.drop 150) = true := by kernel_rfl
theorem wA1_7 (b : Bool) : winN b 25 (hsA1.drop 175) = true := by kernel_rfl
theorem wA1_8 (b : Bool) : winN b 25 (hsA1.drop 200) = true := by kernel_rfl
theorem wA1_9 (b : Bool) : winN b 25 (hsA1.drop 225) = true := by kernel_rfl
theorem wA1_10 (b : Bool) : winN b 25 (hsA1.drop 250) = true := by kernel_rfl
theorem wA1_11 (b : Bool) : winN b 25 (hsA1.drop 275) = true := by kernel_rfl
theorem wA1_12 (b : Bool) : winN b 25 (hsA1.drop 300) = true := by kernel_rfl
theorem wA1_13 (b : Bool) : winN b 25 (hsA1.drop 325) = true := by kernel_rfl
theorem wA1_14 (b : Bool) : winN b 25 (hsA1.drop 350) = true := by kernel_rfl
theorem wA1_15 (b : Bool) : winN b 25 (hsA1.drop 375) = true := by kernel_rfl
theorem wA1_16 (b : Bool) : winN b 25 (hsA1.drop 400) = true := by kernel_rfl
theorem wA1 : ∀ k, k < 17 → ∀ b, winN b 25 (hsA1.drop (25 * k)) = true
  | 0, _ => wA1_0
  | 1, _ => wA1_1
  | 2, _ => wA1_2
  | 3, _ => wA1_3
  | 4, _ => wA1_4
  | 5, _ => wA1_5
  | 6, _ => wA1_6
  | 7, _ => wA1_7
  | 8, _ => wA1_8
  | 9, _ => wA1_9
  | 10, _ => wA1_10
  | 11, _ => wA1_11
  | 12, _ => wA1_12
  | 13, _ => wA1_13
  | 14, _ => wA1_14
  | 15, _ => wA1_15
  | 16, _ => wA1_16
  | n + 17, h => absurd h (by omega)
def hsA2 : List Int := [(-8458139203682520985), (-5164621852614943976), 2575514064802888272, 4685526799349444076, 2575514064802888272, 8389048192121911274, 9083154820904886697, (-6779188579744246035), 960947337673586213, 2248468952609198383, 614214528558765837, 6794810172467074373, 9083154820904886697, 3070960072220142017, 960947337673586213, (-3550055125485641917), (-208276591052177797), (-6779188579744246035), 960947337673586213, (-6348126469135965181), 7878592135480474827, 8756109708711196808, 7121855284660764262, 5032259608464264452, 3398005184413831906, 1901736143494378007, (-208276591052177797), 3070960072220142017, 960947337673586213, (-1440771752368011620), 6299364165049820628, (-8888471952861876332), (-1148336035444044084), (-3054609118068388172), (-8131094091488831096), 159514286966033244, (-4060511182127078364), (-7962693196265267240), 6264025408351172768, 3863035679738500442, 2228781255688067896, 5032259608464264452, 3398005184413831906, 8409376899596376432, 6299364165049820628, (-3436680683881856408), (-1148336035444044084), (-6333845781340707986), 1406290136077124262, (-3995397923889179966), 3744737993528652282, (-5491666964808633865), 465501330256332468, 3453031638033610253, (-6021810718371200799), (-4669175845197690231), 8701083255091418461, (-9131917124991031250), 5094801479625408758, (-7962693196265267240), 6264025408351172768, 5972319052856130739, 8736422011790066321, (-1475381147637733973), (-3109635571688166519), 3516302870623680066, 1406290136077124262, 5854750728075208086, 3744737993528652282, 173794974761290439, 7913930892179122687, 7943705393718373225, (-2762902762573346143), 4358481687155754187, (-1495798205987789967), 8062003079928221385, 6973142086358330893, (-2707876308953567796), (-1149065396872969591), (-5838399773923454241), 7531859326365654451, (-4669175845197690231), 8701083255091418461, (-2624276368889032825), (-6844301837982144433), 1328738215691797254, 4154742035233542471, 1079245023883434373, (-555009400166998173), 3417692881334962393, 1783438457284529847, (-8422800446983873125), 7913930892179122687, (-652890028026790339), (-2762902762573346143), (-4719279054211405927), (-8423529808412798632), 1436064637616374800, 2130171266399350223, 1921423840415508494, (-4789315557055366976), (-7580621630451799004), 5011842550114208458, 2743914960026452128, 1287992449867276102, (-3877100237679331806), (-2318289325598733601), (-2707876308953567796), (-1149065396872969591), 669240982178544184, (-4407243991241898740), (-6778459218315320528), 2193442498989420036, 3883364387212965600, 6709368206754710817, (-5178902540410201171), 9047816064206238837, 7586885779985432798, 5952631355935000252, (-3089947874767036032), (-325844915833100450), (-6313517073866242828), (-8423529808412798632), 4240184000945906027, 2130171266399350223, (-2609995681093775630), 5130140236324056618, (-7719248024136112322), (-4377469489702648202), (-6675171581329655070), 8205637247674164716, 8429064596517506919, 1718325199046631449, 4705214496270574563, (-2005524901200300907), 5973048414285056246, 118768521141512092, 2743914960026452128, 1287992449867276102, 2630540518422666619, 4189351430503264824, (-9215517065055566221), (-3258348769990599888), (-4223833046794152182), 2100396764860099685, (-1885385189342624162), (-6961870162763067086), (-1009709641759730766), (-5229735110852842374), 6760200777197352020, 2540175308104240412, (-4352217537622120393), (-5986471961672552939), 6201483537190028462, 4567229113139595916, 7240152970870612422, 5130140236324056618, (-2267456755156092398), (-4377469489702648202), 3897645075008222795, (-6808963081283496573), 4219855293471440869, (-6486752862820278499), (-167530825227656645), (-8131823452917756603), (-3891380925474589001), 6591070520544862657, 3535990567544810553, (-3174748829926064917), 4705214496270574563, (-2005524901200300907), 8082331787402686543, 6626409277243510517, 634631586908821831, (-5219648306234722323), (-6660890893534397875), (-703722598469431542), (-4322443036082869855), 1634725258982096478, 2283807709307846243, (-7191034647096964809), (-8393025945444622587), 4977233154844486105, 1099573731357899531, (-3120451737735212077), (-6793469267539503230), 7433249337076936778, 4803095124130366729, 7567198083064302311, (-306157218911969963), (-1940411642962402509), (-4698950346736940769), (-6808963081283496573), (-4376740128273722695), (-6486752862820278499), (-995428953964473571), 6744706963453358677, 9112929322444137235, (-1593678833847582133), 6468494421702309991, 792546442450022357, (-5060604854200353011), 5421846591819098647, (-3891380925474589001), 6591070520544862657, (-8403112750062742638), 3332891926175933508, (-1802426259831423862), 2887549127772395459, 3189257758429990177, 1733335248270814151, 5527705615881518197, (-326574277262025957), (-153250137432399450), 5803918157632566883, 7616660281524683336, (-4872915497119901947), (-7007623702649218251), (-683393890994966384), 3546077372162930604, (-8576436889892369145), (-3793500297614796835), (-8013525766707908443), 5145634050068049961, 5323965963959306481, (-7136008193477186462), (-4371905234543250880), (-6813797975013968388), (-8448052399064400934), 8854719697999914481, 6744706963453358677, 516333900698973671, (-1593678833847582133), 5512211802137524854, 8853990336570988974, 2605288566342138810, (-8101319589949580558), 4031436574962064298, (-6899328291601922780), (-5470608895905243200), 2901829815567652654, 4853927694573007932, (-822020284679279702), (-2951321481082722714), (-6517256725788454544), 1001693103498107365, 83429764442864232, 752199911689744484, 5442175299293563805, 3090647769141272504, (-3620091628329602966), (-8749845559177563014), 3842618621388444448, (-979935140220480228), (-2435857650379656254), (-5046324166405095816), (-3487513254324497611), 5507376908407053039, 20158531852794419, (-499982946547219826), (-5576467919967662750), (-5609235289589556518), 3362666427715184046, 2714140458487201590, (-1505885010605910018), (-4009678611684437161), (-8229704080777548769), 6417661851259668788, 4783407427209236242, (-1920723946041272022), 843379012892663560, (-7482741002592006838), 8853990336570988974, (-5991306855403024754), (-8101319589949580558), (-3779219609819539640), 3960916307598292608, (-6550024095410348312), (-3208245560976884192), 5992736111206186733, 6095624513127608912, (-7907666742645488893), (-391687535499924355), 6815227230817130367, (-4115537635746856711), 3684703765847243922, (-1991244213405043712), 4853927694573007932, (-822020284679279702), 3556319275019275711, 7036413318948400706, (-5505947652603891060), (-9071882897309622890), 7259840667791742909, 549101270320867439, 981364396023642207, (-5729375001447233263), (-2242204803075564589), (-8096484696219108743), 3913138888752216138, 2457216378593040112, 1461316589696902609, 3020127501777500814, (-8046293136329802211), (-2089124841264835878), 6007657809554778599, 931172836134335675, 6329868028017996673, 8255740456687880412, (-2178933570485494776), (-6398959039578606384), 7929424705923116030, 3709399236830004422, (-5521441466347884403), (-7155695890398316949), (-8428364702143270447), (-5664261743209334865), 6070929042144848412, 3960916307598292608, (-1098232826430328388), (-3208245560976884192), 2728421146282458785, (-7978187010009260583), 5389079222197204879, (-5317528934094514489), (-1271641495715522257), 4134324976883486477, 8102019484323817030, 8204907886245239209, 4378169384076884674, 4481057785998306853, 5646003302091366357, (-5284761564472620721), 6815227230817130367, (-4115537635746856711), (-8254399551760309269), 4516396542696954713, 2744644321455377635, (-7329661040781278127), (-1336754753953420655), 9145696692066031003, 6433155665003662131, 2867220420297930301, (-4679262649815810282), 7056742026422865864, 5874438424996338573, (-836300972474536897), 6913107858676922533, 5457185348517746507, 1803855515634585841, (-4050424377508958313), 3570599962814532906, (-8918975815830052377), 3892810181277750980, (-8596765597366834303), 1114583780582082233, (-8360258575822728819), (-7223802016718858577), 6146457083570250115, (-69650197367864479), 108681716523392041, 1421783949821117605, (-2798241519271994003), 3633871195404602719, 6397974154338538301, 863066709813794047, (-771187714236638499), (-5868174275462704779), (-7978187010009260583), (-3207516199547958685), (-5317528934094514489), (-2164652882690237581), (-1470546253907262158), (-1118561533904793546), (-424454905121818123), (-3708699342455767950), 6571382823623732170, 5235999260386476168, (-7804778340724066714), 1512149160139543812, 6918115632738552546, 3208945455351120664, 3311833857272542843, 4378169384076884674, 4481057785998306853, (-6293100015516186834), 1222879191629377704, 307586474715131942, 777536393225839655, 5299270492976545981, (-376677486275741653), 7637718350428074001, 1961770371175786367, 5170886002148577770, (-2793406625541522188), (-2722156996748824991), 7760294449270626667, 8874407394921044968, 2163667997450169498, (-633202331105659852), (-7343941728576535322)]
theorem hsA2_ok : (rowA 2).map hashD = hsA2 := by decide +kernel
theorem wA2_0 (b : Bool) : winN b 25 (hsA2.drop 0) = true := by kernel_rfl
theorem wA2_1 (b : Bool) : winN b 25 (hsA2.drop 25) = true := by kernel_rfl
theorem wA2_2 (b : Bool) : winN b 25 (hsA2.drop 50) = true := by kernel_rfl
theorem wA2_3 (b : Bool) : winN b 25 (hsA2.drop 75) = true := by kernel_rfl
theorem wA2_4 (b : Bool) : winN b 25 (hsA2.drop 100) = true := by kernel_rfl
theorem wA2_5 (b : Bool) : winN b 25 (hsA2.drop 125) = true := by kernel_rfl
theorem wA2_6 (b : Bool) : winN b 25 (hsA2.drop 150) = true := by kernel_rfl
theorem wA2_7 (b : Bool) : winN b 25 (hsA2.drop 175) = true := by kernel_rfl
theorem wA2_8 (b : Bool) : winN b 25 (hsA2.drop 200) = true := by kernel_rfl
theorem wA2_9 (b : Bool) : winN b 25 (hsA2.drop 225) = true := by kernel_rfl
theorem wA2_10 (b : Bool) : winN b 25 (hsA2.drop 250) = true := by kernel_rfl
theorem wA2_11 (b : Bool) : winN b 25 (hsA2.drop 275) = true := by kernel_rfl
theorem wA2_12 (b : Bool) : winN b 25 (hsA2.drop 300) = true := by kernel_rfl
theorem wA2_13 (b : Bool) : winN b 25 (hsA2.drop 325) = true := by kernel_rfl
theorem wA2_14 (b : Bool) : winN b 25 (hsA2.drop 350) = true := by kernel_rfl
theorem wA2_15 (b : Bool) : winN b 25 (hsA2.drop 375) = true := by kernel_rfl
theorem wA2_16 (b : Bool) : winN b 25 (hsA2.drop 400) = true := by kernel_rfl
theorem wA2 : ∀ k, k < 17 → ∀ b, winN b 25 (hsA2.drop (25 * k)) = true
  | 0, _ => wA2_0
  | 1, _ => wA2_1
  | 2, _ => wA2_2
  | 3, _ => wA2_3
  | 4, _ => wA2_4
  | 5, _ => wA2_5
  | 6, _ => wA2_6
  | 7, _ => wA2_7
  | 8, _ => wA2_8
  | 9, _ => wA2_9
  | 10, _ => wA2_10
  | 11, _ => wA2_11
  | 12, _ => wA2_12
  | 13, _ => wA2_13
  | 14, _ => wA2_14
  | 15, _ => wA2_15
  | 16, _ => wA2_16
  | n + 17, h => absurd h (by omega)
def hsA3 : List Int := [(-8458139203682520985), (-5164621852614943976), 2575514064802888272, 4685526799349444076, 2575514064802888272, 8389048192121911274, 9083154820904886697, (-6779188579744246035), 960947337673586213, 2248468952609198383, 614214528558765837, 6794810172467074373, 9083154820904886697, 3070960072220142017, 960947337673586213, (-3550055125485641917), (-208276591052177797), (-6779188579744246035), 960947337673586213, (-6348126469135965181), 7878592135480474827, 8756109708711196808, 7121855284660764262, 5032259608464264452, 3398005184413831906, 1901736143494378007, (-208276591052177797), 3070960072220142017, 960947337673586213, (-1440771752368011620), 6299364165049820628, (-8888471952861876332), (-1148336035444044084), (-3054609118068388172), (-8131094091488831096), 159514286966033244, (-4060511182127078364), (-7962693196265267240), 6264025408351172768, 3863035679738500442, 2228781255688067896, 5032259608464264452, 3398005184413831906, 8409376899596376432, 6299364165049820628, (-3436680683881856408), (-1148336035444044084), (-6333845781340707986), 1406290136077124262, (-3995397923889179966), 3744737993528652282, (-5491666964808633865), 465501330256332468, 3453031638033610253, (-6021810718371200799), (-4669175845197690231), 8701083255091418461, (-9131917124991031250), 5094801479625408758, (-7962693196265267240), 6264025408351172768, 5972319052856130739, 8736422011790066321, (-1475381147637733973), (-3109635571688166519), 3516302870623680066, 1406290136077124262, 5854750728075208086, 3744737993528652282, 173794974761290439, 7913930892179122687, 7943705393718373225, (-2762902762573346143), 4358481687155754187, (-1495798205987789967), 8062003079928221385, 6973142086358330893, (-2707876308953567796), (-1149065396872969591), (-5838399773923454241), 7531859326365654451, (-4669175845197690231), 8701083255091418461, (-2624276368889032825), (-6844301837982144433), 1328738215691797254, 4154742035233542471, 1079245023883434373, (-555009400166998173), 3417692881334962393, 1783438457284529847, (-8422800446983873125), 7913930892179122687, (-652890028026790339), (-2762902762573346143), (-4719279054211405927), (-8423529808412798632), 1436064637616374800, 2130171266399350223, 1921423840415508494, (-4789315557055366976), (-7580621630451799004), 5011842550114208458, 2743914960026452128, 1287992449867276102, (-3877100237679331806), (-2318289325598733601), (-2707876308953567796), (-1149065396872969591), 669240982178544184, (-4407243991241898740), (-6778459218315320528), 2193442498989420036, 3883364387212965600, 6709368206754710817, (-5178902540410201171), 9047816064206238837, 7586885779985432798, 5952631355935000252, (-3089947874767036032), (-325844915833100450), (-6313517073866242828), (-8423529808412798632), 4240184000945906027, 2130171266399350223, (-2609995681093775630), 5130140236324056618, (-7719248024136112322), (-4377469489702648202), (-6675171581329655070), 8205637247674164716, 8429064596517506919, 1718325199046631449, 4705214496270574563, (-2005524901200300907), 5973048414285056246, 118768521141512092, 2743914960026452128, 1287992449867276102, 2630540518422666619, 4189351430503264824, (-9215517065055566221), (-3258348769990599888), (-4223833046794152182), 2100396764860099685, (-1885385189342624162), (-6961870162763067086), (-1009709641759730766), (-5229735110852842374), 6760200777197352020, 2540175308104240412, (-4352217537622120393), (-5986471961672552939), 6201483537190028462, 4567229113139595916, 7240152970870612422, 5130140236324056618, (-2267456755156092398), (-4377469489702648202), 3897645075008222795, (-6808963081283496573), 4219855293471440869, (-6486752862820278499), (-167530825227656645), (-8131823452917756603), (-3891380925474589001), 6591070520544862657, 3535990567544810553, (-3174748829926064917), 4705214496270574563, (-2005524901200300907), 8082331787402686543, 6626409277243510517, 634631586908821831, (-5219648306234722323), (-6660890893534397875), (-703722598469431542), (-4322443036082869855), 1634725258982096478, 2283807709307846243, (-7191034647096964809), (-8393025945444622587), 4977233154844486105, 1099573731357899531, (-3120451737735212077), (-6793469267539503230), 7433249337076936778, 4803095124130366729, 7567198083064302311, (-306157218911969963), (-1940411642962402509), (-4698950346736940769), (-6808963081283496573), (-4376740128273722695), (-6486752862820278499), (-995428953964473571), 6744706963453358677, 9112929322444137235, (-1593678833847582133), 6468494421702309991, 792546442450022357, (-5060604854200353011), 5421846591819098647, (-3891380925474589001), 6591070520544862657, (-8403112750062742638), 3332891926175933508, (-1802426259831423862), 2887549127772395459, 3189257758429990177, 1733335248270814151, 5527705615881518197, (-326574277262025957), (-153250137432399450), 5803918157632566883, 7616660281524683336, (-4872915497119901947), (-7007623702649218251), (-683393890994966384), 3546077372162930604, (-8576436889892369145), (-3793500297614796835), (-8013525766707908443), 5145634050068049961, 5323965963959306481, (-7136008193477186462), (-4371905234543250880), (-6813797975013968388), (-8448052399064400934), 8854719697999914481, 6744706963453358677, 516333900698973671, (-1593678833847582133), 5512211802137524854, 8853990336570988974, 2605288566342138810, (-8101319589949580558), 4031436574962064298, (-6899328291601922780), (-5470608895905243200), 2901829815567652654, 4853927694573007932, (-822020284679279702), (-2951321481082722714), (-6517256725788454544), 1001693103498107365, 83429764442864232, 752199911689744484, 5442175299293563805, 3090647769141272504, (-3620091628329602966), (-8749845559177563014), 3842618621388444448, (-979935140220480228), (-2435857650379656254), (-5046324166405095816), (-3487513254324497611), 5507376908407053039, 20158531852794419, (-499982946547219826), (-5576467919967662750), (-5609235289589556518), 3362666427715184046, 2714140458487201590, (-1505885010605910018), (-4009678611684437161), (-8229704080777548769), 6417661851259668788, 4783407427209236242, (-1920723946041272022), 843379012892663560, (-7482741002592006838), 8853990336570988974, (-5991306855403024754), (-8101319589949580558), (-3779219609819539640), 3960916307598292608, (-6550024095410348312), (-3208245560976884192), 5992736111206186733, 6095624513127608912, (-7907666742645488893), (-391687535499924355), 6815227230817130367, (-4115537635746856711), 3684703765847243922, (-1991244213405043712), 4853927694573007932, (-822020284679279702), 3556319275019275711, 7036413318948400706, (-5505947652603891060), (-9071882897309622890), 7259840667791742909, 549101270320867439, 981364396023642207, (-5729375001447233263), (-2242204803075564589), (-8096484696219108743), 3913138888752216138, 2457216378593040112, 1461316589696902609, 3020127501777500814, (-8046293136329802211), (-2089124841264835878), 6007657809554778599, 931172836134335675, 6329868028017996673, 8255740456687880412, (-2178933570485494776), (-6398959039578606384), 7929424705923116030, 3709399236830004422, (-5521441466347884403), (-7155695890398316949), (-8428364702143270447), (-5664261743209334865), 6070929042144848412, 3960916307598292608, (-1098232826430328388), (-3208245560976884192), 2728421146282458785, (-7978187010009260583), 5389079222197204879, (-5317528934094514489), (-1271641495715522257), 4134324976883486477, 8102019484323817030, 8204907886245239209, 4378169384076884674, 4481057785998306853, 5646003302091366357, (-5284761564472620721), 6815227230817130367, (-4115537635746856711), (-8254399551760309269), 4516396542696954713, 2744644321455377635, (-7329661040781278127), (-1336754753953420655), 9145696692066031003, 6433155665003662131, 2867220420297930301, (-4679262649815810282), 7056742026422865864, 5874438424996338573, (-836300972474536897), 6913107858676922533, 5457185348517746507, 1803855515634585841, (-4050424377508958313), 3570599962814532906, (-8918975815830052377), 3892810181277750980, (-8596765597366834303), 1114583780582082233, (-8360258575822728819), (-7223802016718858577), 6146457083570250115, (-69650197367864479), 108681716523392041, 1421783949821117605, (-2798241519271994003), 3633871195404602719, 6397974154338538301, 863066709813794047, (-771187714236638499), (-5868174275462704779), (-7978187010009260583), (-3207516199547958685), (-5317528934094514489), (-2164652882690237581), (-1470546253907262158), (-1118561533904793546), (-424454905121818123), (-3708699342455767950), 6571382823623732170, 5235999260386476168, (-7804778340724066714), 1512149160139543812, 6918115632738552546, 3208945455351120664, 3311833857272542843, 4378169384076884674, 4481057785998306853, (-6293100015516186834), 1222879191629377704, 307586474715131942, 777536393225839655, 5299270492976545981, (-376677486275741653), 7637718350428074001, 1961770371175786367, 5170886002148577770, (-2793406625541522188), (-2722156996748824991), 7760294449270626667, 8874407394921044968, 2163667997450169498, (-633202331105659852), (-7343941728576535322)]
theorem hsA3_ok : (rowA 3).map hashD = hsA3 := by decide +kernel
theorem wA3_0 (b : Bool) : winN b 25 (hsA3.drop 0) = true := by kernel_rfl
theorem wA3_1 (b : Bool) : winN b 25 (hsA3.drop 25) = true := by kernel_rfl
theorem wA3_2 (b : Bool) : winN b 25 (hsA3.drop 50) = true := by kernel_rfl
theorem wA3_3 (b : Bool) : winN b 25 (hsA3.drop 75) = true := by kernel_rfl
theorem wA3_4 (b : Bool) : winN b 25 (hsA3.drop 100) = true := by kernel_rfl
theorem wA3_5 (b : Bool) : winN b 25 (hsA3.drop 125) = true := by kernel_rfl
theorem wA3_6 (b : Bool) : winN b 25 (hsA3.drop 150) = true := by kernel_rfl
theorem wA3_7 (b : Bool) : winN b 25 (hsA3.drop 175) = true := by kernel_rfl
theorem wA3_8 (b : Bool) : winN b 25 (hsA3.drop 200) = true := by kernel_rfl
theorem wA3_9 (b : Bool) : winN b 25 (hsA3.drop 225) = true := by kernel_rfl
theorem wA3_10 (b : Bool) : winN b 25 (hsA3.drop 250) = true := by kernel_rfl
theorem wA3_11 (b : Bool) : winN b 25 (hsA3.drop 275) = true := by kernel_rfl
theorem wA3_12 (b : Bool) : winN b 25 (hsA3.drop 300) = true := by kernel_rfl
theorem wA3_13 (b : Bool) : winN b 25 (hsA3.drop 325) = true := by kernel_rfl
theorem wA3_14 (b : Bool) : winN b 25 (hsA3.drop 350) = true := by kernel_rfl
theorem wA3_15 (b : Bool) : winN b 25 (hsA3.drop 375) = true := by kernel_rfl
theorem wA3_16 (b : Bool) : winN b 25 (hsA3.drop 400) = true := by kernel_rfl
theorem wA3 : ∀ k, k < 17 → ∀ b, winN b 25 (hsA3.drop (25 * k)) = true
  | 0, _ => wA3_0
  | 1, _ => wA3_1
  | 2, _ => wA3_2
  | 3, _ => wA3_3
  | 4, _ => wA3_4
  | 5, _ => wA3_5
  | 6, _ => wA3_6
  | 7, _ => wA3_7
  | 8, _ => wA3_8
  | 9, _ => wA3_9
  | 10, _ => wA3_10
  | 11, _ => wA3_11
  | 12, _ => wA3_12
  | 13, _ => wA3_13
  | 14, _ => wA3_14
  | 15, _ => wA3_15
  | 16, _ => wA3_16
  | n + 17, h => absurd h (by omega)
def hsU : List Int := [(-3358488530884808903), (-3358488530884808903), 5002585986996421116, 6049162123635823397, 2350180386600321688, (-3358488530884808903), 3345063042036334817, (-3946460631932601386), (-2271388539190126816), 3345063042036334817, (-8251655482543176382), (-7868653911774183471), (-8251655482543176382), 1874537928340425021, 1874537928340425021]
theorem hsU_ok : (sureD).map hashD = hsU := by decide +kernel
theorem wU_0 (b : Bool) : winN b 25 (hsU.drop 0) = true := by kernel_rfl
theorem wU : ∀ k, k < 1 → ∀ b, winN b 25 (hsU.drop (25 * k)) = true
  | 0, _ => wU_0
  | n + 1, h => absurd h (by omega)

structure RowG (kd : D) (n : Nat) : Prop where
  len : (rowW kd).length = n
  pos : 1 ≤ n
  top : n ≤ 401
  rise : ((rowW kd).map (measV kd)).Pairwise (· ≤ ·)
  win : ∀ a, a < n → lenSetB (((rowW kd).drop a).take 6) = true
  many : (n : Int) ≤ manyB kd
theorem rowOk_of {n : Nat} {m : D → Int} {R : List D} (h : rowOk n m R = true) : R.length = n ∧ (R.map m).Pairwise (· ≤ ·) ∧ winC R = true := by
  unfold rowOk at h
  rw [Bool.and_eq_true, Bool.and_eq_true, decide_eq_true_iff] at h
  exact ⟨h.1, riseP h.2.1, h.2.2⟩
theorem rowOkV_of {n : Nat} {R : List D} (h : rowOkV n R = true) : R.length = n ∧ (R.map measA).Pairwise (· ≤ ·) ∧ winV R = true := by
  unfold rowOkV at h
  rw [Bool.and_eq_true, Bool.and_eq_true, decide_eq_true_iff] at h
  exact ⟨h.1, riseP h.2.1, h.2.2⟩
theorem set_V {l : List D} {a : Nat} (h : winV l = true) : lenSetB ((l.drop a).take 6) = true := by
  have q := winVP (a := a) h
  have ln : ((l.drop a).take 6).length ≤ 4000 := by rw [List.length_take]; omega
  generalize (l.drop a).take 6 = w at q ln ⊢
  unfold okV at q
  rw [Bool.and_eq_true, Bool.and_eq_true] at q
  unfold lenSetB
  rw [q.1, q.2.1, q.2.2, decide_eq_true ln]
  rfl
theorem set_C {l : List D} {hs : List Int} {a : Nat} (h : winC l = true) (e : l.map hashD = hs) (hh : setB ((hs.drop a).take 6) = true) : lenSetB ((l.drop a).take 6) = true := by
  have q := winP (a := a) h
  have ln : ((l.drop a).take 6).length ≤ 4000 := by rw [List.length_take]; omega
  rw [← e, ← List.map_drop, ← List.map_take] at hh
  generalize (l.drop a).take 6 = w at q ln hh ⊢
  unfold okW at q
  rw [Bool.and_eq_true, Bool.and_eq_true, Bool.and_eq_true] at q
  unfold lenSetB
  rw [q.1, q.2.1, q.2.2.1, q.2.2.2, hh, decide_eq_true ln]
  cases (w.all isIntB && decide (w.map intV).Nodup) <;> rfl
theorem rest_row (n : Nat) (h1 : 1 ≤ n) (h2 : n < 13) {kd : D} (e : rowW kd = rangeL 0 n) (em : ∀ d, measV kd d = measA d) (hm : (n : Int) ≤ manyB kd) : RowG kd n := by
  obtain ⟨q1, q2, q3⟩ := rowOkV_of (row_N n h2)
  have em2 : measV kd = measA := funext em
  exact ⟨by rw [e]; exact q1, h1, by omega, by rw [e, em2]; exact q2, fun a _ => by rw [e]; exact set_V q3, hm⟩
theorem row_good {kd : D} (c : kindB kd = true) : ∃ n, RowG kd n := by
  have kc := kind_cases c
  cases kc with
  | whole =>
    obtain ⟨q1, q2, q3⟩ := rowOkV_of row_H
    exact ⟨401, q1, by decide, Nat.le_refl _, q2, fun a _ => set_V q3, Int.le_refl _⟩
  | share =>
    obtain ⟨q1, q2, q3⟩ := rowOk_of row_S
    exact ⟨401, q1, by decide, Nat.le_refl _, q2, fun a h => set_C q3 hsS_ok (set_win wS (by omega)), Int.le_refl _⟩
  | root x x0 x1 =>
    obtain ⟨q1, q2, q3⟩ := rowOk_of row_Rt
    exact ⟨401, q1, by decide, Nat.le_refl _, q2, fun a h => set_C q3 hsRt_ok (set_win wRt (by omega)), Int.le_refl _⟩
  | rest x x0 x1 =>
    refine ⟨x.toNat, rest_row x.toNat (by omega) (by omega) rfl (fun d => rfl) ?_⟩
    show (x.toNat : Int) ≤ x
    omega
  | about x x0 x1 =>
    have hx : x = 1 ∨ x = 2 ∨ x = 3 := by omega
    rcases hx with rfl | rfl | rfl
    · obtain ⟨q1, q2, q3⟩ := rowOk_of row_A1
      exact ⟨401, q1, by decide, Nat.le_refl _, q2, fun a h => set_C q3 hsA1_ok (set_win wA1 (by omega)), Int.le_refl _⟩
    · obtain ⟨q1, q2, q3⟩ := rowOk_of row_A2
      exact ⟨401, q1, by decide, Nat.le_refl _, q2, fun a h => set_C q3 hsA2_ok (set_win wA2 (by omega)), Int.le_refl _⟩
    · obtain ⟨q1, q2, q3⟩ := rowOk_of row_A3
      exact ⟨401, q1, by decide, Nat.le_refl _, q2, fun a h => set_C q3 hsA3_ok (set_win wA3 (by omega)), Int.le_refl _⟩
  | sure x x0 x1 =>
    obtain ⟨q1, q2, q3⟩ := rowOk_of row_U
    exact ⟨15, q1, by decide, by decide, q2, fun a h => set_C q3 hsU_ok (set_win wU (by omega)), Int.le_refl _⟩
  | own u t u0 u1 => exact ⟨u.length, rest_row u.length (by omega) (by omega) rfl (fun d => rfl) (Int.le_refl _)⟩
theorem row_atW {kd d : D} {n : Nat} (h : AtW kd n d) (hn : n ≤ 400) : (rowW kd)[n]? = some d := by
  cases h with
  | whole =>
    show rowH[n]? = _
    unfold rowH
    rw [List.getElem?_map, List.getElem?_take_of_lt (by omega), wh_at n (by omega)]
    rfl
  | share h =>
    have hl := (rowOk_of row_S).1
    unfold rowS at hl
    rw [List.length_map, List.length_take] at hl
    have q := sh_at h (by omega)
    show rowS[n]? = _
    unfold rowS
    rw [List.map_take, List.getElem?_take_of_lt (by omega)]
    exact q
  | root x h =>
    obtain ⟨i, j, a, b, hi, hj, ha, hb, rfl, hn2⟩ := h
    have k21 := shK_21
    have ea := sh_at ha (by omega)
    have eb := sh_at hb (by omega)
    show rowRt[n]? = _
    unfold rowRt
    rw [List.getElem?_map, List.getElem?_take_of_lt (by omega), rt_at hi hj hn2]
    show some (D.tup [(shK.map toD).getD i .non, (shK.map toD).getD j .non]) = _
    rw [List.getD_eq_getElem?_getD, List.getD_eq_getElem?_getD, ea, eb]
    rfl
  | about f f0 h =>
    have hl : (rowA f).length = 401 := by
      rcases f0 with rfl | rfl | rfl
      · exact (rowOk_of row_A1).1
      · exact (rowOk_of row_A2).1
      · exact (rowOk_of row_A3).1
    unfold rowA at hl
    rw [List.length_map, List.length_take] at hl
    have q := ab_at h (by omega)
    have e : rowW (.tup [.str wAbout, .int f]) = rowA f := rfl
    rw [e]
    unfold rowA
    rw [List.map_take, List.getElem?_take_of_lt (by omega)]
    exact q
  | sure x h => exact h
  | rest x h1 h2 =>
    show (rangeL 0 x.toNat)[n]? = _
    exact range_at (by omega)
  | own u t h1 h2 =>
    show (rangeL 0 u.length)[n]? = _
    exact range_at h1

section
variable {S S0 S1 S2 T : Sto} {P : D → Sto → Prop} {E : D → Sto → Prop} {n a : Nat} {m : Int} {f : Env → Sto → Res D} {env : Env}
theorem lc_pureG {t : Tgt} {c : Env → Sto → Res Bool} {e : Env → Sto → Res D} {g : Option Nat} {o : Option Ob} {l : List D} {P : List D → Sto → Prop} (p : D → Bool) (f : D → D) (hg : ∀ n, g = some n → S[n]? = o)
    (hs : ∀ d ∈ l, ∃ env1, t.put d env = some env1 ∧ OKR (c env1 S) (fun b S1 => b = p d ∧ S1 = S) (fun _ _ => False) ∧ (p d = true → OKR (e env1 S) (fun v S1 => v = f d ∧ S1 = S ∧ nr v = true) fun _ _ => False))
    (h : P ((l.filter p).map f) S) : OKR (lcL t c e g o env l S) P E := by
  have key := lcL_ok (t := t) (c := c) (e := e) (g := g) (o := o) (env := env) (E := E) (P := fun r S1 => S1 = S ∧ r = (l.filter p).map f) (fun l2 S1 acc => S1 = S ∧ (∀ d ∈ l2, d ∈ l) ∧ acc ++ (l2.filter p).map f = (l.filter p).map f)
    (fun _ S1 n _ hI z => by
      rw [hI.1]
      exact hg n z) (fun d r S1 acc hI => by
      obtain ⟨rfl, hm, ha⟩ := hI
      obtain ⟨env1, e1, hc, he⟩ := hs d (hm d (List.mem_cons_self ..))
      refine ⟨env1, e1, hc.mono (fun b S2 q => ?_) fun _ _ q => q⟩
      obtain ⟨rfl, rfl⟩ := q
      refine ⟨fun hb => ?_, fun hb => ?_⟩
      · refine (he hb).mono (fun v S3 q => ?_) fun _ _ q => q
        obtain ⟨rfl, rfl, hn⟩ := q
        refine o_frz hn ⟨rfl, fun d' hd => hm d' (List.mem_cons_of_mem _ hd), ?_⟩
        rw [List.filter_cons, if_pos hb, List.map_cons] at ha
        rw [List.append_assoc]
        exact ha
      · refine ⟨rfl, fun d' hd => hm d' (List.mem_cons_of_mem _ hd), ?_⟩
        rw [List.filter_cons, if_neg (by rw [hb]; exact Bool.false_ne_true)] at ha
        exact ha) l S [] ⟨rfl, fun _ h => h, rfl⟩ (fun S1 acc q => by
      obtain ⟨rfl, _, q⟩ := q
      rw [List.filter_nil, List.map_nil, List.append_nil] at q
      exact ⟨rfl, q⟩)
  refine key.mono (fun r S1 q => ?_) fun _ _ q => q
  obtain ⟨rfl, q⟩ := q
  have q' : r = (l.filter p).map f := q
  rw [q']
  exact h
theorem sq_own {fz : Bool} {l : List D} {R : Itm → Sto → Prop} (e : S[n]? = some (.lst fz l)) (h : R ⟨l, some n, some (.lst fz l)⟩ S) : Sq (.ref n) S R := ⟨_, _, e, h⟩
end

section
variable {S S0 S1 : Sto} {P : D → Sto → Prop} {E : D → Sto → Prop} {n : Nat} {m : Int}
theorem shW {w : List Nat} (h : cp w = true) : Wf 1 6 (.tup [.str w]) := Wf.tup (by show 1 ≤ 6; decide) fun z hz => by
  rw [List.mem_singleton.mp hz]
  unfold Wf
  exact h
theorem share_place_k {p : Int × Int} {i : Nat} (e : plS p = i) (hi : i ≤ 400) (h0 : 0 < p.2) (h1 : Int.gcd p.1 p.2 = 1) (h2 : p.1.natAbs ≤ 100000) (h3 : p.2.natAbs ≤ 100000) (h : P (.int (i : Int)) S) : OKR (fplace_of [.tup [.str wShare], toD p] S) P E := by
  have g1 : worthB (.tup [.str wShare]) (toD p) = true := fr_b h0 h1
  have g2 : plD (.tup [.str wShare]) (toD p) = (i : Int) := by
    show ((plS (p.1, p.2) : Nat) : Int) = i
    rw [← e]
  refine place_of_ok (k := 1) (W := 6) (k2 := 1) (W2 := 6) (shW rfl) (wf_two h2 h3) (fun z => absurd z (by decide)) (fun _ z => absurd g1 (by rw [z]; decide)) (fun _ _ z => absurd z (by omega)) fun _ _ _ => ?_
  rw [g2]
  exact h
theorem meas_ok {kd d : D} (h : AtW kd n d) (hn : n ≤ 400) (q : P (.int (measV kd d)) S) : OKR (fL_measure [kd, d] S) P E := by
  unfold fL_measure
  with_reducible refine o_fn (by with_unfolding_all rfl) ?_
  unfold bL_measure
  cases h with
  | whole =>
    walk_at "sms"
    exact q
  | share h =>
    obtain ⟨p, rfl, e1, e2, e3, e4, e5⟩ := h.pl
    unfold toD at q ⊢
    walk_at "sms"
    exact q
  | root x h =>
    obtain ⟨i, j, a, b, hi, hj, ha, hb, rfl, hn2⟩ := h
    obtain ⟨p, rfl, e1, e2, e3, e4, e5⟩ := ha.pl
    obtain ⟨p2, rfl, f1, f2, f3, f4, f5⟩ := hb.pl
    have em : measV (.tup [.str wRoot, .int x]) (.tup [toD p, toD p2]) = ((max i j : Nat) : Int) := by
      show ((max (plS (p.1, p.2)) (plS (p2.1, p2.2)) : Nat) : Int) = _
      rw [show (p.1, p.2) = p from rfl, show (p2.1, p2.2) = p2 from rfl, e1, f1]
    rw [em] at q
    walk_at "sms"
    refine share_place_k e1 (by omega) e2 e3 (by omega) (by omega) ?_
    walk_at "sms"
    refine share_place_k f1 (by omega) f2 f3 (by omega) (by omega) ?_
    walk_at "sms"
    have e9 : ((max i j : Nat) : Int) = if (j : Int) > (i : Int) then (j : Int) else (i : Int) := by split <;> omega
    rw [e9] at q
    exact q
  | about f f0 h =>
    obtain ⟨p, rfl, e1, e2, e3, e4⟩ := h.pl f0
    unfold toD at q ⊢
    walk_at "sms"
    exact q
  | sure x h =>
    have hd := List.mem_of_getElem? h
    obtain ⟨p, hp, rfl⟩ := List.mem_map.mp hd
    unfold sD at q ⊢
    walk_at "sms"
    exact q
  | rest x h1 h2 =>
    walk_at "sms"
    exact q
  | own u t h1 h2 =>
    walk_at "sms"
    exact q
end
section
variable {S S0 S1 : Sto} {P : D → Sto → Prop} {E : D → Sto → Prop} {n : Nat} {m : Int}
def wAt (kd : D) : D → D
  | .int i => (rowW kd).getD i.toNat .non
  | _ => .non
theorem range_drop {R : List D} : ∀ {k a : Nat}, a + k ≤ R.length → (rangeL (a : Int) k).map (fun d => match d with | .int i => R.getD i.toNat .non | _ => .non) = (R.drop a).take k
  | 0, a, _ => by
    rw [List.take_zero]
    rfl
  | k + 1, a, h => by
    have ha : a < R.length := by omega
    rw [List.drop_eq_getElem_cons ha, List.take_succ_cons]
    show R.getD (a : Int).toNat .non :: (rangeL ((a : Int) + 1) k).map _ = _
    have e : ((a : Int) + 1) = ((a + 1 : Nat) : Int) := by omega
    rw [e, range_drop (R := R) (k := k) (a := a + 1) (by omega), Int.toNat_natCast, List.getD_eq_getElem?_getD, List.getElem?_eq_getElem ha]
    rfl
theorem wAt_range {kd : D} {a k : Nat} (h : a + k ≤ (rowW kd).length) : (rangeL (a : Int) k).map (wAt kd) = ((rowW kd).drop a).take k := by
  rw [← range_drop h]
  apply List.map_congr_left
  intro d _
  cases d <;> rfl
theorem worth_told {kd : D} (hk : Wf 3 6 kd) (c : kindB kd = true) {N : Nat} (G : RowG kd N) {i : Nat} (hi : i < N) (h : ∀ d, (rowW kd)[i]? = some d → AtW kd i d → P d S) : OKR (fworth_at [kd, .int (i : Int)] S) P E := by
  have hN := G.top
  have hm := G.many
  have np : numB (.int (i : Int)) 0 400 = true := by
    show (decide (0 ≤ (i : Int)) && decide ((i : Int) ≤ 400)) = true
    rw [decide_eq_true (by omega), decide_eq_true (by omega)]
    rfl
  refine worth_at_ok (k2 := 0) (W2 := 6) hk (wf_sm (by omega)) (fun z => absurd c (by rw [z]; decide)) (fun _ z => absurd np (by rw [z]; decide)) (fun _ q e _ hq => absurd hm (by
    have : (q : Int) = i := (D.int.inj e).symm
    omega)) fun _ q d e _ _ hd => ?_
  have e : q = i := by
    have : (i : Int) = q := D.int.inj e
    omega
  subst e
  exact h d (row_atW hd (by omega)) hd
theorem nr_row {kd d : D} {i : Nat} (h : AtW kd i d) (hi : i ≤ 400) : nr d = true := (h.wr hi).2.2.2
theorem place_told {kd d : D} (hk : Wf 3 6 kd) (c : kindB kd = true) {i : Nat} (hi : i ≤ 400) (hd : AtW kd i d) (h : P (.int (i : Int)) S) : OKR (fplace_of [kd, d] S) P E := by
  obtain ⟨g1, g2, g3⟩ := hd.good hi
  refine place_of_ok hk g3 (fun z => absurd c (by rw [z]; decide)) (fun _ z => absurd g1 (by rw [z]; decide)) (fun _ _ z => absurd z (by omega)) fun _ _ _ => ?_
  rw [g2]
  exact h
theorem eq_ints : ∀ ns : List Int, eqVL (ns.map D.int) (ns.map D.int) = true
  | [] => rfl
  | i :: l => by
    show ((i == i) && eqVL (l.map D.int) (l.map D.int)) = true
    rw [eq_ints l, beq_self_eq_true]
    rfl
theorem okL_ints : ∀ (n : Nat) (ns : List Int), okL n (ns.map D.int) = true
  | _, [] => rfl
  | n, i :: l => by
    show (okD n (.int i) && okL n (l.map D.int)) = true
    rw [okL_ints n l]
    cases n <;> rfl
theorem eq_intL {ns : List Int} (h : P (.bl true) S) : OKR (eqD (.lst (ns.map .int)) (.lst (ns.map .int)) S) P E := by
  have p : plain (.lst (ns.map .int)) S = true := by
    show (true && okL 59 (ns.map .int)) = true
    rw [okL_ints]
    rfl
  have e : eqD (.lst (ns.map .int)) (.lst (ns.map .int)) S = if (plain (.lst (ns.map .int)) S && plain (.lst (ns.map .int)) S) = true then .ok (.bl (eqVL (ns.map D.int) (ns.map D.int))) S else .bad := rfl
  rw [e, p, eq_ints]
  exact h
theorem ne_intL {ns : List Int} (h : P (.bl false) S) : OKR (neD (.lst (ns.map .int)) (.lst (ns.map .int)) S) P E := by
  have p : plain (.lst (ns.map .int)) S = true := by
    show (true && okL 59 (ns.map .int)) = true
    rw [okL_ints]
    rfl
  have e : neD (.lst (ns.map .int)) (.lst (ns.map .int)) S = if (plain (.lst (ns.map .int)) S && plain (.lst (ns.map .int)) S) = true then .ok (.bl (!eqVL (ns.map D.int) (ns.map D.int))) S else .bad := rfl
  rw [e, p, eq_ints]
  exact h
theorem lc_own {t : Tgt} {c : Env → Sto → Res Bool} {e : Env → Sto → Res D} {r : Nat} {env : Env} {l : List D} {P : List D → Sto → Prop} (f : D → D) (ea : S[r]? = some (.lst false l)) (hc : ∀ env, c env S = .ok true S)
    (hs : ∀ d ∈ l, ∃ env1, t.put d env = some env1 ∧ OKR (e env1 S) (fun v S1 => v = f d ∧ S1 = S ∧ nr v = true) fun _ _ => False)
    (h : P (l.map f) S) : OKR (lcL t c e (some r) (some (.lst false l)) env l S) P E := by
  refine lc_pureG (fun _ => true) f (fun m z => by cases z; exact ea) (fun d hd => ?_) ?_
  · obtain ⟨env1, e1, e2⟩ := hs d hd
    exact ⟨env1, e1, by rw [hc]; exact ⟨rfl, rfl⟩, fun _ => e2⟩
  · rw [filt_all]
    exact h
end

section
variable {S S0 S1 : Sto} {P : D → Sto → Prop} {E : D → Sto → Prop} {n : Nat} {m : Int}
theorem AtS_of {kd d : D} {L : List D} {a k : Nat} (hL : L = ((rowW kd).drop a).take k) (hd : d ∈ L) : ∃ i, a ≤ i ∧ i < a + k ∧ (rowW kd)[i]? = some d := by
  rw [hL] at hd
  obtain ⟨j, hj⟩ := List.getElem?_of_mem hd
  rw [List.getElem?_take] at hj
  split at hj
  · rw [List.getElem?_drop] at hj
    exact ⟨a + j, by omega, by omega, hj⟩
  · cases hj
theorem see_lst8 {d : D} {l : List D} (e : getL d S = some l) : see d S = .lst l := by
  unfold getL at e
  cases d with
  | lst r =>
    injection e with e
    rw [← e]
    rfl
  | ref n =>
    dsimp only at e
    unfold see
    dsimp only
    cases hn : S[n]? with
    | none =>
      rw [hn] at e
      cases e
    | some o =>
      rw [hn] at e
      cases o with
      | lst fz r =>
        injection e with e
        rw [← e]
      | _ => cases e
  | _ => cases e
theorem o_lenR {d : D} {l : List D} (e : getL d S = some l) (h : P (.int l.length) S) : OKR (lenM [d] S) P E := by
  refine e_len (v := .int l.length) ?_ h
  unfold lenM
  dsimp only
  rw [see_lst8 e]
  dsimp only
  rw [e]
  try rfl
def Told (kd : D) (N : Nat) : Prop := ∀ i d, i < N → (rowW kd)[i]? = some d → AtW kd i d
theorem stretch_tail {kd : D} (hk : Wf 3 6 kd) (c : kindB kd = true) {N : Nat} (G : RowG kd N) (T : Told kd N) {a k r : Nat} {L : List D} (hL : L = ((rowW kd).drop a).take k) (hak : a + k ≤ N) (hk1 : 1 ≤ k) (hw : ((rowW kd).drop a).take k = ((rowW kd).drop a).take 6) (er : S[r]? = some (.lst false L)) {turn : Int} {y4 y6 y7 y8 : Option D} {N' B' C' : Env → Sto → Prop} {T' : D → Sto → Prop} {X' : D → Env → Sto → Prop} (h : T' (.bl true) S) : OKS (bL_stretch_right_s4 [some kd, some (.int (a : Int)), some (.int ((a + k - 1 : Nat) : Int)), some (.int turn), y4, some (.ref r), y6, y7, y8] S) N' B' C' T' X' := by
  have hN := G.top
  have ll : L.length = k := by
    rw [hL, List.length_take, List.length_drop, G.len]
    omega
  have hline : L.length ≤ LINE := Nat.le_trans (show L.length ≤ 1000 by omega) (Nat.le_of_ble_eq_true rfl)
  have gl : getL (.ref r) S = some L := getL_ref er
  have each : ∀ d ∈ L, ∃ i, a ≤ i ∧ i < a + k ∧ (rowW kd)[i]? = some d ∧ AtW kd i d := fun d hd => by
    obtain ⟨i, h1, h2, h3⟩ := AtS_of hL hd
    exact ⟨i, h1, h2, h3, T i d (by omega) h3⟩
  have wl : lenSetB L = true := by
    rw [hL, hw]
    exact G.win a (by omega)
  have eN : ((a + k - 1 : Nat) : Int) + 1 = ((a + k : Nat) : Int) := by omega
  have ePl : L.map (fun d => .int (plD kd d)) = rangeL (a : Int) k := by
    have key : ∀ (j b : Nat) (M : List D), M = ((rowW kd).drop b).take j → b + j ≤ N → M.map (fun d => D.int (plD kd d)) = rangeL (b : Int) j := by
      intro j
      induction j with
      | zero =>
        intro b M e _
        rw [e, List.take_zero]
        rfl
      | succ j ih =>
        intro b M e hb
        have hb2 : b < (rowW kd).length := by rw [G.len]; omega
        rw [List.drop_eq_getElem_cons hb2, List.take_succ_cons] at e
        rw [e]
        have q := (T b _ (by omega) (List.getElem?_eq_getElem hb2)).good (by omega)
        show D.int (plD kd (rowW kd)[b]) :: _ = D.int (b : Int) :: rangeL ((b : Int) + 1) j
        rw [q.2.1, show (b : Int) + 1 = ((b + 1 : Nat) : Int) by omega, ← ih (b + 1) _ rfl (by omega)]
        try rfl
    exact key k a L hL hak
  have rise : (L.map (measV kd)).Pairwise (· ≤ ·) := by
    rw [hL, List.map_take, List.map_drop]
    exact (G.rise.sublist (List.drop_sublist ..)).sublist (List.take_sublist ..)
  unfold bL_stretch_right_s4
  rw [← bL_stretch_right_s5.eq_def]
  walk_at "sms"
  refine sq_own er ⟨hline, ?_⟩
  refine lc_own (fun _ => .bl true) er (fun _ => rfl) (fun d hd => ?_) ?_
  · obtain ⟨i, h1, h2, h3, at_⟩ := each d hd
    have nd := nr_row at_ (by omega)
    obtain ⟨g1, g2, g3⟩ := at_.good (by omega)
    refine ⟨[some kd, some (.int (a : Int)), some (.int ((a + k - 1 : Nat) : Int)), some (.int turn), y4, some (.ref r), y6, y7, some d], rfl, ?_⟩
    unfold bL_stretch_right_e1
    walk_at "sme"
    refine is_worth_ok hk g3 ?_
    rw [if_pos c, g1]
    walk_at "sme"
    exact ⟨rfl, rfl, rfl⟩
  · walk_at "sms"
    refine o_all (allBl_map (fun _ => true) _) ?_
    have et : ((L.map fun _ => true).all id) = true := by rw [List.all_map, List.all_eq_true]; intro _ _; rfl
    rw [et]
    walk_at "sms"
    unfold bL_stretch_right_s5
    rw [← bL_stretch_right_s6.eq_def]
    walk_at "sms"
    refine sq_own er ⟨hline, ?_⟩
    refine lc_own (fun d => .int (plD kd d)) er (fun _ => rfl) (fun d hd => ?_) ?_
    · obtain ⟨i, h1, h2, h3, at_⟩ := each d hd
      have nd := nr_row at_ (by omega)
      have g2 := (at_.good (by omega)).2.1
      refine ⟨[some kd, some (.int (a : Int)), some (.int ((a + k - 1 : Nat) : Int)), some (.int turn), y4, some (.ref r), y6, y7, some d], rfl, ?_⟩
      unfold bL_stretch_right_e2
      walk_at "sme"
      refine place_told hk c (by omega) at_ ?_
      rw [g2]
      exact ⟨rfl, rfl, rfl⟩
    · walk_at "sms"
      rw [ePl, show (((a + k - 1 : Nat) : Int) + 1 - (a : Int)).toNat = k by omega]
      rw [rangeL_iL]
      refine ne_intL ?_
      walk_at "sms"
      unfold bL_stretch_right_s6
      rw [← bL_stretch_right_s7.eq_def]
      walk_at "sms"
      refine sq_own er ⟨hline, ?_⟩
      refine lc_own (fun d => .int (measV kd d)) er (fun _ => rfl) (fun d hd => ?_) ?_
      · obtain ⟨i, h1, h2, h3, at_⟩ := each d hd
        have nd := nr_row at_ (by omega)
        refine ⟨[some kd, some (.int (a : Int)), some (.int ((a + k - 1 : Nat) : Int)), some (.int turn), y4, some (.ref r), y6, y7, some d], rfl, ?_⟩
        unfold bL_stretch_right_e3
        walk_at "sme"
        exact meas_ok at_ (by omega) ⟨rfl, rfl, rfl⟩
      · have em : L.map (fun d => D.int (measV kd d)) = (L.map (measV kd)).map .int := by rw [List.map_map]; rfl
        rw [em]
        walk_at "sms"
        unfold bL_stretch_right_s7
        walk_at "sms"
        refine o_sortL rfl (allIn_ints _) ?_
        rw [← sortI_uniq (List.Perm.refl _) rise]
        refine eq_intL ?_
        walk_at "sms"
        refine ⟨L, gl, wl, ?_⟩
        walk_at "sms"
        refine o_lenR gl ?_
        walk_at "sms"
        rw [decide_eq_true rfl]
        exact h
theorem rev_range {kd : D} {l : List D} : (l.reverse.map (wAt kd)).reverse = l.map (wAt kd) := by
  rw [← List.map_reverse, List.reverse_reverse]
theorem wAt_at {kd d : D} {i : Nat} (h : (rowW kd)[i]? = some d) : wAt kd (.int (i : Int)) = d := by
  show (rowW kd).getD (i : Int).toNat .non = d
  rw [Int.toNat_natCast, List.getD_eq_getElem?_getD, h]
  rfl
theorem worths_lc {kd : D} (hk : Wf 3 6 kd) (c : kindB kd = true) {N : Nat} (G : RowG kd N) {a b r : Nat} {l : List D} {turn : Int} {y5 y6 y7 y8 : Option D} {e : Env → Sto → Res D} (he : e = bL_stretch_right_e0) (hl : ∀ d ∈ l, ∃ i : Nat, d = .int (i : Int) ∧ i < N) (er : S[r]? = some (.lst false l)) {P : List D → Sto → Prop} (h : P (l.map (wAt kd)) S) : OKR (lcL (.one 7) yesF e (some r) (some (.lst false l)) [some kd, some (.int (a : Int)), some (.int (b : Int)), some (.int turn), some (.ref r), y5, y6, y7, y8] l S) P E := by
  have hN := G.top
  subst he
  refine lc_own (wAt kd) er (fun _ => rfl) (fun d hd => ?_) h
  obtain ⟨i, rfl, hi⟩ := hl d hd
  refine ⟨[some kd, some (.int (a : Int)), some (.int (b : Int)), some (.int turn), some (.ref r), y5, y6, some (.int (i : Int)), y8], rfl, ?_⟩
  unfold bL_stretch_right_e0
  walk_at "sme"
  refine worth_told hk c G hi fun d e at_ => ?_
  have nd := nr_row at_ (by omega)
  exact ⟨(wAt_at e).symm, rfl, nd⟩
theorem stretch_ok {kd : D} (hk : Wf 3 6 kd) (c : kindB kd = true) {N : Nat} (G : RowG kd N) (T : Told kd N) {a k : Nat} (hak : a + k ≤ N) (hk1 : 1 ≤ k) (hw : ((rowW kd).drop a).take k = ((rowW kd).drop a).take 6) {turn : Int} (ht : turn = 0 ∨ turn = 1) (h : P (.bl true) S) : OKR (fL_stretch_right [kd, .int (a : Int), .int ((a + k - 1 : Nat) : Int), .int turn] S) P E := by
  have hN := G.top
  have ln := G.len
  unfold fL_stretch_right
  with_reducible refine o_fn (by with_unfolding_all rfl) ?_
  unfold bL_stretch_right
  rw [← bL_stretch_right_s1.eq_def]
  walk_at "sms"
  have ek : ((((a + k - 1 : Nat) : Int) + 1) - (a : Int)).toNat = k := by omega
  rw [ek]
  have hpl : ∀ d ∈ rangeL (a : Int) k, ∃ i : Nat, d = .int (i : Int) ∧ i < N := fun d hd => by
    obtain ⟨i, rfl, i0, i1⟩ := rangeL_mem _ _ d hd
    exact ⟨i.toNat, by rw [Int.toNat_of_nonneg (by omega)], by omega⟩
  have hrow := wAt_range (kd := kd) (a := a) (k := k) (by omega)
  have hlen : (rangeL (a : Int) k).length ≤ LINE := by
    rw [rangeL_len']
    exact Nat.le_trans (show k ≤ 1000 by omega) (Nat.le_of_ble_eq_true rfl)
  generalize rangeL (a : Int) k = pl at hpl hrow hlen ⊢
  have fin : ∀ (pl2 L : List D), L = ((rowW kd).drop a).take k → ((S ++ [Ob.lst false pl2] ++ [Ob.lst false L] : Sto).take S.length = S) := fun pl2 L _ => by
    rw [List.append_assoc, List.take_left' rfl]
  have l1 : ∀ pl2 : List D, (S ++ [Ob.lst false pl2] : Sto).length = S.length + 1 := fun pl2 => by rw [List.length_append]; rfl
  show OKS (bL_stretch_right_s1 [some kd, some (.int (a : Int)), some (.int ((a + k - 1 : Nat) : Int)), some (.int turn), some (.ref S.length), none, none, none, none] (S ++ [Ob.lst false pl])) _ _ _ _ _
  rcases ht with rfl | rfl
  · unfold bL_stretch_right_s1
    rw [← bL_stretch_right_s2.eq_def]
    walk_at "sms"
    unfold bL_stretch_right_s2
    rw [← bL_stretch_right_s3.eq_def]
    walk_at "sms"
    refine sq_own at_app ⟨hlen, ?_⟩
    refine worths_lc hk c G rfl hpl at_app ?_
    walk_at "sms"
    rw [l1, hrow]
    unfold bL_stretch_right_s3
    rw [← bL_stretch_right_s4.eq_def]
    walk_at "sms"
    refine stretch_tail hk c G T rfl hak hk1 hw (r := S.length + 1) (by rw [← l1 pl]; exact at_app) ?_
    walk_at "sms"
    rw [fin _ _ rfl]
    exact h
  · unfold bL_stretch_right_s1
    rw [← bL_stretch_right_s2.eq_def]
    walk_at "sms"
    refine ⟨hasTy_l (getL_ref at_app), o_revO at_app ?_⟩
    rw [set_app]
    walk_at "sms"
    unfold bL_stretch_right_s2
    rw [← bL_stretch_right_s3.eq_def]
    walk_at "sms"
    refine sq_own at_app ⟨by rw [List.length_reverse]; exact hlen, ?_⟩
    refine worths_lc hk c G rfl (fun d hd => hpl d (List.mem_reverse.mp hd)) at_app ?_
    walk_at "sms"
    rw [l1]
    unfold bL_stretch_right_s3
    rw [← bL_stretch_right_s4.eq_def]
    walk_at "sms"
    have ea : (S ++ [Ob.lst false pl.reverse] ++ [Ob.lst false (pl.reverse.map (wAt kd))] : Sto)[S.length + 1]? = some (.lst false (pl.reverse.map (wAt kd))) := by rw [← l1 pl.reverse]; exact at_app
    refine ⟨hasTy_l (getL_ref ea), o_revO ea ?_⟩
    have es : (S ++ [Ob.lst false pl.reverse] ++ [Ob.lst false (pl.reverse.map (wAt kd))] : Sto).set (S.length + 1) (.lst false (pl.reverse.map (wAt kd)).reverse) = S ++ [Ob.lst false pl.reverse] ++ [Ob.lst false (((rowW kd).drop a).take k)] := by
      rw [← l1 pl.reverse, set_app, rev_range, hrow]
    rw [es]
    walk_at "sms"
    refine stretch_tail hk c G T rfl hak hk1 hw (r := S.length + 1) (by rw [← l1 pl.reverse]; exact at_app) ?_
    walk_at "sms"
    rw [fin _ _ rfl]
    exact h
end

def lowP (x y : Int) : Int × Int := (x.fdiv (Int.gcd x y), y.fdiv (Int.gcd x y))
def rootIn (p q : Int × Int) : Bool := decide (plR p q < 401) && (decide (rtK[plR p q]? = some (plS p, plS q)) && (decide (shK[plS p]? = some p) && decide (shK[plS q]? = some q)))
theorem mem_S : ∀ x ∈ iL (-10) 21, ∀ y ∈ iL 1 12, lowP x y ∈ shK.take 401 := by decide +kernel
theorem mem_Rt : ∀ x ∈ iL (-4) 9, ∀ y ∈ iL 1 2, ∀ q ∈ ([(0, 1), (1, 1), (-1, 1), (2, 1), (1, 2)] : List (Int × Int)), rootIn (lowP x y) q = true := by decide +kernel
theorem mem_A1 : ∀ c ∈ iL (-9) 19, ∀ e ∈ iL (-4) 9, c = 0 ∨ (c, e) ∈ (abK 1).take 401 := by decide +kernel
theorem mem_A2 : ∀ c ∈ iL (-9) 19, ∀ e ∈ iL (-4) 9, c = 0 ∨ (c, e) ∈ (abK 2).take 401 := by decide +kernel
theorem mem_A3 : ∀ c ∈ iL (-9) 19, ∀ e ∈ iL (-4) 9, c = 0 ∨ (c, e) ∈ (abK 3).take 401 := by decide +kernel
theorem mem_A0 : ((0, 0) : Int × Int) ∈ (abK 1).take 401 ∧ ((0, 0) : Int × Int) ∈ (abK 2).take 401 ∧ ((0, 0) : Int × Int) ∈ (abK 3).take 401 := by decide +kernel
theorem mem_U : ∀ l ∈ iL (-2) 5, ∀ t ∈ iL 0 5, l + t ≤ 2 → (l, l + t) ∈ sureP := by decide +kernel
theorem mem_H {z : Int} (h0 : -200 ≤ z) (h1 : z ≤ 200) : D.int z ∈ rowH := by
  obtain ⟨n, hn, e⟩ : ∃ n : Nat, n ≤ 400 ∧ wholeAt n = z := by
    by_cases hz : 0 < z
    · refine ⟨(2 * z - 1).toNat, by omega, ?_⟩
      unfold wholeAt
      rw [if_pos (by omega)]
      omega
    · refine ⟨(0 - 2 * z).toNat, by omega, ?_⟩
      unfold wholeAt
      rw [if_neg (by omega)]
      omega
  have q := row_atW (.whole n) hn
  rw [e] at q
  exact List.mem_of_getElem? q
section
variable {S S0 S1 : Sto} {P : D → Sto → Prop} {E : D → Sto → Prop} {n : Nat} {m : Int}
theorem L_low_ok {x y : Int} (hx : x.natAbs ≤ 100) (hy : 1 ≤ y) (hy2 : y ≤ 100) (h : P (toD (lowP x y)) S) : OKR (fL_lowest [.int x, .int y] S) P E := by
  have g0 : 0 < Int.gcd x y := Int.gcd_pos_of_ne_zero_right _ (by omega)
  have g1 : Int.gcd x y ≤ y.natAbs := Nat.le_of_dvd (by omega) (Int.gcd_dvd_natAbs_right x y)
  unfold lowP toD at h
  refine o_fn rfl ?_
  unfold bL_lowest
  walk_at "sms"
  refine L_part_ok (Nat.lt_of_le_of_lt (show x.natAbs ≤ 10 ^ 2 from hx) (Nat.pow_lt_pow_right (by decide) (by decide))) (Nat.lt_of_le_of_lt (show y.natAbs ≤ 10 ^ 2 by omega) (Nat.pow_lt_pow_right (by decide) (by decide))) ?_
  generalize Int.gcd x y = g at g0 g1 h ⊢
  walk_at "sms"
  refine br_dec (fun h1 => ?_) fun h1 => ?_
  · walk_at "sms"
    rw [Int.mul_one]
    walk_at "sms"
    exact h
  · omega
theorem root_in {p q : Int × Int} (h : rootIn p q = true) : D.tup [toD p, toD q] ∈ rowRt := by
  unfold rootIn at h
  rw [Bool.and_eq_true, Bool.and_eq_true, Bool.and_eq_true, decide_eq_true_iff, decide_eq_true_iff, decide_eq_true_iff, decide_eq_true_iff] at h
  obtain ⟨h1, h2, h3, h4⟩ := h
  have e : rowRt[plR p q]? = some (D.tup [toD p, toD q]) := by
    unfold rowRt
    rw [List.getElem?_map, List.getElem?_take_of_lt h1, h2]
    show some (D.tup [(shK.map toD).getD (plS p) .non, (shK.map toD).getD (plS q) .non]) = _
    rw [List.getD_eq_getElem?_getD, List.getD_eq_getElem?_getD, List.getElem?_map, List.getElem?_map, h3, h4]
    rfl
  exact List.mem_of_getElem? e
theorem A_in {f : Int} (f0 : f = 1 ∨ f = 2 ∨ f = 3) {c e : Int} (h : (c = 0 ∧ e = 0) ∨ (c ≠ 0 ∧ c ∈ iL (-9) 19 ∧ e ∈ iL (-4) 9)) : toD (c, e) ∈ rowA f := by
  have key : (c, e) ∈ (abK f).take 401 := by
    rcases h with ⟨rfl, rfl⟩ | ⟨h0, h1, h2⟩
    · rcases f0 with rfl | rfl | rfl
      · exact mem_A0.1
      · exact mem_A0.2.1
      · exact mem_A0.2.2
    · rcases f0 with rfl | rfl | rfl
      · exact (mem_A1 c h1 e h2).resolve_left h0
      · exact (mem_A2 c h1 e h2).resolve_left h0
      · exact (mem_A3 c h1 e h2).resolve_left h0
  exact List.mem_map_of_mem key
theorem small_by_ok {kd : D} (hk : Wf 3 6 kd) (c : kindB kd = true) (st : StE S0 S n m) (hm : m ≤ 800000) (h : ∀ w S1, w ∈ rowW kd → StE S0 S1 n (m + 10) → P w S1) : OKR (fL_small_by [.ref n, kd] S) P E := by
  have fin : ∀ d S1, d ∈ rowW kd → StE S0 S1 n (m + 10) → P d (S1.take S.length) := fun d S1 hc st1 => by
    have l4 : S1.length = S.length := by
      have := st1.len
      have := st.len
      omega
    rw [List.take_of_length_le (by omega)]
    exact h _ _ hc st1
  unfold fL_small_by
  with_reducible refine o_fn (by with_unfolding_all rfl) ?_
  unfold bL_small_by
  rw [← bL_small_by_s1.eq_def]
  walk_at "sms"
  refine take_ok st (by omega) (by decide) (by decide) fun u S1 u0 u1 st1 => ?_
  walk_at "sms"
  refine take_ok st1 (by omega) (by decide) (by decide) fun v S2 v0 v1 st2 => ?_
  walk_at "sms"
  refine L_low_ok (by omega) (by omega) (by omega) ?_
  have hsh : u - 4 ∈ iL (-4) 9 ∧ 1 + v ∈ iL 1 2 := ⟨mem_iL.mpr ⟨by omega, by omega⟩, mem_iL.mpr ⟨by omega, by omega⟩⟩
  generalize hsp : lowP (u - 4) (1 + v) = sp
  have kc := kind_cases c
  have nsp : nr (toD sp) = true := rfl
  cases kc with
  | whole =>
    walk_at "sms"
    unfold bL_small_by_s1
    rw [← bL_small_by_s2.eq_def]
    walk_at "sms"
    refine take_ok st2 (by omega) (by decide) (by decide) fun x S3 x0 x1 st3 => ?_
    walk_at "sms"
    exact fin _ _ (mem_H (by omega) (by omega)) (st3.up (by omega))
  | share =>
    walk_at "sms"
    unfold bL_small_by_s1
    rw [← bL_small_by_s2.eq_def]
    walk_at "sms"
    unfold bL_small_by_s2
    rw [← bL_small_by_s3.eq_def]
    walk_at "sms"
    refine take_ok st2 (by omega) (by decide) (by decide) fun x S3 x0 x1 st3 => ?_
    walk_at "sms"
    refine take_ok st3 (by omega) (by decide) (by decide) fun y S4 y0 y1 st4 => ?_
    walk_at "sms"
    refine L_low_ok (by omega) (by omega) (by omega) ?_
    have q : toD (lowP (x - 10) (1 + y)) ∈ rowS := List.mem_map_of_mem (mem_S _ (mem_iL.mpr ⟨by omega, by omega⟩) _ (mem_iL.mpr ⟨by omega, by omega⟩))
    generalize lowP (x - 10) (1 + y) = r at q ⊢
    have nr2 : nr (toD r) = true := rfl
    walk_at "sms"
    exact fin _ _ q (st4.up (by omega))
  | root x x0 x1 =>
    walk_at "sms"
    unfold bL_small_by_s1
    rw [← bL_small_by_s2.eq_def]
    walk_at "sms"
    unfold bL_small_by_s2
    rw [← bL_small_by_s3.eq_def]
    walk_at "sms"
    unfold bL_small_by_s3
    rw [← bL_small_by_s4.eq_def]
    walk_at "sms"
    refine take_ok st2 (by omega) (by decide) (by decide) fun y S3 y0 y1 st3 => ?_
    walk_at "sms"
    refine o_ixB y0 y1 fun d hd => ?_
    obtain ⟨q, rfl, hq⟩ : ∃ q : Int × Int, d = toD q ∧ q ∈ ([(0, 1), (1, 1), (-1, 1), (2, 1), (1, 2)] : List (Int × Int)) := by
      have hd : d ∈ ([(0, 1), (1, 1), (-1, 1), (2, 1), (1, 2)] : List (Int × Int)).map toD := hd
      obtain ⟨q, hq, rfl⟩ := List.mem_map.mp hd
      exact ⟨q, rfl, hq⟩
    have g := mem_Rt _ hsh.1 _ hsh.2 q hq
    rw [hsp] at g
    have nq : nr (toD q) = true := rfl
    walk_at "sms"
    exact fin _ _ (root_in g) (st3.up (by omega))
  | rest x x0 x1 =>
    walk_at "sms"
    unfold bL_small_by_s1
    rw [← bL_small_by_s2.eq_def]
    walk_at "sms"
    unfold bL_small_by_s2
    rw [← bL_small_by_s3.eq_def]
    walk_at "sms"
    unfold bL_small_by_s3
    rw [← bL_small_by_s4.eq_def]
    walk_at "sms"
    unfold bL_small_by_s4
    rw [← bL_small_by_s5.eq_def]
    walk_at "sms"
    unfold bL_small_by_s5
    rw [← bL_small_by_s6.eq_def]
    walk_at "sms"
    unfold bL_small_by_s6
    walk_at "sms"
    refine many_ok hk ?_
    rw [if_pos c, if_pos (by rfl)]
    show OKR (fL_take [.ref n, .int x] S2) _ _
    refine take_ok st2 (by omega) (by omega) (by omega) fun y S3 y0 y1 st3 => ?_
    walk_at "sms"
    refine fin _ _ ?_ (st3.up (by omega))
    obtain ⟨y, rfl⟩ := Int.eq_ofNat_of_zero_le y0
    exact List.mem_of_getElem? (range_at (m := x.toNat) (n := y) (by omega))
  | about x x0 x1 =>
    have f0 : x = 1 ∨ x = 2 ∨ x = 3 := by omega
    walk_at "sms"
    unfold bL_small_by_s1
    rw [← bL_small_by_s2.eq_def]
    walk_at "sms"
    unfold bL_small_by_s2
    rw [← bL_small_by_s3.eq_def]
    walk_at "sms"
    unfold bL_small_by_s3
    rw [← bL_small_by_s4.eq_def]
    walk_at "sms"
    unfold bL_small_by_s4
    rw [← bL_small_by_s5.eq_def]
    walk_at "sms"
    refine take_ok st2 (by omega) (by decide) (by decide) fun y S3 y0 y1 st3 => ?_
    walk_at "sms"
    refine br_dec (fun h1 => ?_) fun h1 => ?_
    · walk_at "sms"
      exact fin _ _ (A_in f0 (.inl ⟨rfl, rfl⟩)) (st3.up (by omega))
    · walk_at "sms"
      refine take_ok st3 (by omega) (by decide) (by decide) fun z S4 z0 z1 st4 => ?_
      walk_at "sms"
      exact fin _ _ (A_in f0 (.inr ⟨h1, mem_iL.mpr ⟨by omega, by omega⟩, mem_iL.mpr ⟨by omega, by omega⟩⟩)) (st4.up (by omega))
  | sure x x0 x1 =>
    walk_at "sms"
    unfold bL_small_by_s1
    rw [← bL_small_by_s2.eq_def]
    walk_at "sms"
    unfold bL_small_by_s2
    rw [← bL_small_by_s3.eq_def]
    walk_at "sms"
    unfold bL_small_by_s3
    rw [← bL_small_by_s4.eq_def]
    walk_at "sms"
    unfold bL_small_by_s4
    rw [← bL_small_by_s5.eq_def]
    walk_at "sms"
    unfold bL_small_by_s5
    rw [← bL_small_by_s6.eq_def]
    walk_at "sms"
    refine take_ok st2 (by omega) (by decide) (by decide) fun y S3 y0 y1 st3 => ?_
    walk_at "sms"
    refine take_ok st3 (by omega) (by omega) (by omega) fun z S4 z0 z1 st4 => ?_
    walk_at "sms"
    have q := mem_U (y - 2) (mem_iL.mpr ⟨by omega, by omega⟩) z (mem_iL.mpr ⟨by omega, by omega⟩) (by omega)
    exact fin _ _ (List.mem_map_of_mem (f := sD) q) (st4.up (by omega))
  | own uu t u0 u1 =>
    walk_at "sms"
    unfold bL_small_by_s1
    rw [← bL_small_by_s2.eq_def]
    walk_at "sms"
    unfold bL_small_by_s2
    rw [← bL_small_by_s3.eq_def]
    walk_at "sms"
    unfold bL_small_by_s3
    rw [← bL_small_by_s4.eq_def]
    walk_at "sms"
    unfold bL_small_by_s4
    rw [← bL_small_by_s5.eq_def]
    walk_at "sms"
    unfold bL_small_by_s5
    rw [← bL_small_by_s6.eq_def]
    walk_at "sms"
    unfold bL_small_by_s6
    walk_at "sms"
    refine many_ok hk ?_
    rw [if_pos c, if_pos (by rfl)]
    show OKR (fL_take [.ref n, .int (uu.length : Int)] S2) _ _
    refine take_ok st2 (by omega) (by omega) (by omega) fun y S3 y0 y1 st3 => ?_
    walk_at "sms"
    refine fin _ _ ?_ (st3.up (by omega))
    obtain ⟨y, rfl⟩ := Int.eq_ofNat_of_zero_le y0
    exact List.mem_of_getElem? (range_at (m := uu.length) (n := y) (by omega))
end

section
variable {S S0 S1 : Sto} {P : D → Sto → Prop} {E : D → Sto → Prop} {n : Nat} {m : Int} {N' B' C' : Env → Sto → Prop} {T' : D → Sto → Prop} {X' : D → Env → Sto → Prop}
theorem told_of {kd : D} (hk : Wf 3 6 kd) (c : kindB kd = true) {N : Nat} (G : RowG kd N) : Told kd N := fun i d hi hd => by
  have key : OKR (fworth_at [kd, .int (i : Int)] []) (fun v _ => AtW kd i v ∧ (rowW kd)[i]? = some v) (fun _ _ => False) := worth_told hk c G hi fun d e a => ⟨a, e⟩
  obtain ⟨v, S', _, a, e⟩ := key.ok
  rw [hd] at e
  injection e with e
  rw [e]
  exact a
theorem win_take {kd : D} {N a k : Nat} (G : RowG kd N) (hk : k = 6 ∨ (k = N - a ∧ k ≤ 6)) : ((rowW kd).drop a).take k = ((rowW kd).drop a).take 6 := by
  rcases hk with rfl | ⟨h1, h2⟩
  · rfl
  · have ln : ((rowW kd).drop a).length ≤ k := by rw [List.length_drop, G.len]; omega
    rw [List.take_of_length_le ln, List.take_of_length_le (by omega)]
theorem law_l1 {kd : D} (hk : Wf 3 6 kd) (c : kindB kd = true) {N : Nat} (G : RowG kd N) {last most : Int} (hl : last = (N : Int) - 1) (h0 : 0 ≤ most) (h1 : most ≤ last) (st : StE S0 S n m) (hm : m ≤ 800000) {y0 y1 y2 y7 y8 y9 : Option D} (h : ∀ y7 S1, StE S0 S1 n (m + 2) → N' [y0, y1, y2, some (.ref n), some kd, some (.int last), some (.int most), y7, y8, y9] S1) : OKS (blaw_l1 [y0, y1, y2, some (.ref n), some kd, some (.int last), some (.int most), y7, y8, y9] S) N' B' C' T' X' := by
  have hN := G.top
  unfold blaw_l1
  rw [← blaw_l1_s1.eq_def]
  walk_at "sms"
  refine take_ok st (by omega) (by omega) (by omega) fun a S1 a0 a1 st1 => ?_
  obtain ⟨a, rfl⟩ := Int.eq_ofNat_of_zero_le a0
  obtain ⟨k, hk6, hkk, e⟩ : ∃ k : Nat, (k = 6 ∨ (k = N - a ∧ k ≤ 6)) ∧ (1 ≤ k ∧ a + k ≤ N) ∧ ((if (a : Int) + 5 < last then (a : Int) + 5 else last) = ((a + k - 1 : Nat) : Int)) := by
    by_cases q : (a : Int) + 5 < last
    · exact ⟨6, .inl rfl, ⟨by omega, by omega⟩, by rw [if_pos q]; omega⟩
    · exact ⟨N - a, .inr ⟨rfl, by omega⟩, ⟨by omega, by omega⟩, by rw [if_neg q]; omega⟩
  walk_at "sms"
  unfold blaw_l1_s1
  walk_at "sms"
  have m1 : m + 1 ≤ 900000 := by omega
  have z0 : (0 : Int) < 2 := by decide
  have z1 : (2 : Int) < 1000000000 := by decide
  with_reducible refine take_ok st1 m1 z0 z1 ?_
  intro t S2 t0 t1 st2
  have hw := win_take (a := a) G hk6
  have T := told_of hk c G
  have hk1 := hkk.1
  have hk2 := hkk.2
  walk_at "sms"
  have ht : t = 0 ∨ t = 1 := by omega
  have st3 : StE S0 S2 n (m + 2) := st2.up (by omega)
  rw [e]
  with_reducible refine stretch_ok hk c G T hk2 hk1 hw ht ?_
  walk_at "sms"
  exact h _ _ st3
def lastV : D → Nat
  | .tup [.str w, .int x] => if w = wRest then x.toNat else if w = wSure then 15 else 401
  | .tup [.str _, .tup u, _] => u.length
  | _ => 401
theorem len_row {kd : D} (c : kindB kd = true) : (rowW kd).length = lastV kd := by
  have kc := kind_cases c
  cases kc with
  | whole => exact (rowOkV_of row_H).1
  | share => exact (rowOk_of row_S).1
  | root x x0 x1 => exact (rowOk_of row_Rt).1
  | rest x x0 x1 => exact (rowOkV_of (row_N x.toNat (by omega))).1
  | about x x0 x1 =>
    have hx : x = 1 ∨ x = 2 ∨ x = 3 := by omega
    rcases hx with rfl | rfl | rfl
    · exact (rowOk_of row_A1).1
    · exact (rowOk_of row_A2).1
    · exact (rowOk_of row_A3).1
  | sure x x0 x1 => exact (rowOk_of row_U).1
  | own u t u0 u1 => exact (rowOkV_of (row_N u.length (by omega))).1
theorem good_row {kd : D} (c : kindB kd = true) : RowG kd (lastV kd) := by
  obtain ⟨N, G⟩ := row_good c
  have e : N = lastV kd := G.len.symm.trans (len_row c)
  rw [← e]
  exact G
end

section
variable {S S0 S1 : Sto} {P : D → Sto → Prop} {E : D → Sto → Prop} {n : Nat} {m : Int} {N' B' C' : Env → Sto → Prop} {T' : D → Sto → Prop} {X' : D → Env → Sto → Prop}
theorem law_s6 {kd : D} (hk : Wf 3 6 kd) (c : kindB kd = true) {N : Nat} (G : RowG kd N) {last : Int} (hl : last = (N : Int) - 1) (st : StE S0 S n m) (hm : m ≤ 800000) {y0 y1 y2 y6 y7 y8 y9 : Option D} (h : ∀ y8 y9 S1, N' [y0, y1, y2, some (.ref n), some kd, some (.int last), y6, y7, y8, y9] S1) : OKS (blaw_l3_s6 [y0, y1, y2, some (.ref n), some kd, some (.int last), y6, y7, y8, y9] S) N' B' C' T' X' := by
  have hN := G.top
  have T := told_of hk c G
  unfold blaw_l3_s6
  rw [← blaw_l3_s7.eq_def]
  walk_at "sms"
  with_reducible refine small_by_ok hk c st hm ?_
  intro w S1 hw st1
  obtain ⟨i, hi⟩ := List.getElem?_of_mem hw
  have hiN : i < N := by
    rw [← G.len]
    exact (List.getElem?_eq_some_iff.mp hi).1
  have at_ := T i w hiN hi
  have nw := nr_row at_ (by omega)
  have wr := at_.wr (show i ≤ 400 by omega)
  have i4 : i ≤ 400 := by omega
  walk_at "sms"
  unfold blaw_l3_s7
  rw [← blaw_l3_s8.eq_def]
  walk_at "sms"
  with_reducible refine place_told hk c i4 at_ ?_
  walk_at "sms"
  unfold blaw_l3_s8
  walk_at "sms"
  have hle : decide ((i : Int) ≤ last) = true := decide_eq_true (by omega)
  have h0 : decide ((0 : Int) ≤ (i : Int)) = true := decide_eq_true (by omega)
  rw [hle]
  walk_at "sms"
  with_reducible refine worth_told hk c G hiN ?_
  intro d hd2 at2
  have e : d = w := Option.some.inj (hd2.symm.trans hi)
  subst e
  walk_at "sms"
  refine o_wr wr ?_
  walk_at "sms"
  refine o_wr wr ?_
  walk_at "sms"
  exact h _ _ _
theorem law_s5 {kd : D} (hk : Wf 3 6 kd) (c : kindB kd = true) {N : Nat} (G : RowG kd N) {last : Int} (hl : last = (N : Int) - 1) (st : StE S0 S n m) (hm : m ≤ 700000) {y0 y1 y2 y6 y7 y8 y9 : Option D} (h : ∀ y6 y7 y8 y9 S1, N' [y0, y1, y2, some (.ref n), some kd, some (.int last), y6, y7, y8, y9] S1) : OKS (blaw_l3_s5 [y0, y1, y2, some (.ref n), some kd, some (.int last), y6, y7, y8, y9] S) N' B' C' T' X' := by
  have hN := G.top
  have hp := G.pos
  unfold blaw_l3_s5
  rw [← blaw_l3_s6.eq_def]
  generalize hb : blaw_l1 = b1
  walk_at "sms"
  subst hb
  have hmin : ∃ most : Int, (if last < 20 then last else 20) = most ∧ 0 ≤ most ∧ most ≤ last := ⟨_, rfl, by split <;> omega, by split <;> omega⟩
  have hmin2 : ∃ most : Int, (if 20 < last then 20 else last) = most ∧ 0 ≤ most ∧ most ≤ last := ⟨_, rfl, by split <;> omega, by split <;> omega⟩
  with_reducible refine Exists.elim hmin ?_
  intro most hmm
  rw [hmm.1]
  have h0 := hmm.2.1
  have h1 := hmm.2.2
  have hm8 : m ≤ 800000 := by omega
  have hm9 : m + 2 ≤ 800000 := by omega
  have hm10 : m + 2 + 2 ≤ 800000 := by omega
  have hl0 : 0 ≤ last := by omega
  have hl1 : last ≤ last := Int.le_refl _
  show OKS (forL (.one 6) blaw_l1 none none [.int most, .int last] [y0, y1, y2, some (.ref n), some kd, some (.int last), y6, y7, y8, y9] S) _ _ _ _ _
  with_reducible refine o_forC ⟨[y0, y1, y2, some (.ref n), some kd, some (.int last), some (.int most), y7, y8, y9], by with_unfolding_all rfl, ?_⟩
  with_reducible refine law_l1 hk c G hl h0 h1 st hm8 ?_
  intro y7 S1 st1
  with_reducible refine o_forC ⟨[y0, y1, y2, some (.ref n), some kd, some (.int last), some (.int last), y7, y8, y9], by with_unfolding_all rfl, ?_⟩
  with_reducible refine law_l1 hk c G hl hl0 hl1 st1 hm9 ?_
  intro y7 S2 st2
  with_reducible refine o_forN ?_
  with_reducible refine law_s6 hk c G hl st2 hm10 ?_
  intro y8 y9 S3
  exact h _ _ _ _ _
theorem told_all {kd : D} (hk : Wf 3 6 kd) (c : kindB kd = true) {N : Nat} (G : RowG kd N) (hr : rowW kd = rangeL 0 N) {e : Env → Sto → Res D} (he : e = blaw_e0) {l : List D} (hl : l = rangeL 0 N) {y0 y1 y2 y3 y5 y6 y7 y8 y9 : Option D} {P : List D → Sto → Prop} (h : P l S) : OKR (lcL (.one 9) yesF e none none [y0, y1, y2, y3, some kd, y5, y6, y7, y8, y9] l S) P E := by
  have hN := G.top
  subst he
  refine lc_pure (fun _ => true) (wAt kd) (fun d hd => ?_) ?_
  · rw [hl] at hd
    obtain ⟨i, rfl, i0, i1⟩ := rangeL_mem _ _ d hd
    obtain ⟨i, rfl⟩ := Int.eq_ofNat_of_zero_le i0
    refine ⟨[y0, y1, y2, y3, some kd, y5, y6, y7, y8, some (.int (i : Int))], rfl, ⟨rfl, rfl⟩, fun _ => ?_⟩
    unfold blaw_e0
    walk_at "sme"
    refine worth_told hk c G (by omega) fun d e at_ => ?_
    have nd := nr_row at_ (by omega)
    exact ⟨(wAt_at e).symm, rfl, nd⟩
  · have q := wAt_range (kd := kd) (a := 0) (k := N) (by rw [G.len]; omega)
    rw [filt_all]
    have q2 : l.map (wAt kd) = l := by
      rw [hl]
      have q : (rangeL 0 N).map (wAt kd) = ((rowW kd).drop 0).take N := q
      rw [q, List.drop_zero, List.take_of_length_le (by rw [G.len]; exact Nat.le_refl _), hr]
    rw [q2]
    exact h
theorem law_l3 {j : Nat} {cell : Int} {y0 y3 y4 y5 y6 y7 y8 y9 : Option D} (hj : j ≤ 63) (h : ∀ y3 y4 y5 y6 y7 y8 y9 S1, N' [y0, some (.int (j : Int)), some (.int cell), y3, y4, y5, y6, y7, y8, y9] S1) : OKS (blaw_l3 [y0, some (.int (j : Int)), some (.int cell), y3, y4, y5, y6, y7, y8, y9] S) N' B' C' T' X' := by
  unfold blaw_l3
  rw [← blaw_l3_s1.eq_def]
  walk_at "sms"
  refine stream_ok (by omega) (by omega) fun bb x => ?_
  have st := StE.refl (S := S ++ [strm bb cell 0 x]) (n := S.length) (m := 0) at_app (Int.le_refl _) (Int.le_refl _)
  generalize S.length = n at *
  generalize S ++ [strm bb cell 0 x] = S3 at *
  walk_at "sms"
  unfold blaw_l3_s1
  rw [← blaw_l3_s2.eq_def]
  walk_at "sms"
  refine kind_by_ok st (by omega) fun kd S4 c hk st4 => ?_
  have G := good_row c
  have kc := kind_cases c
  have nk : nr kd = true := by cases kc <;> rfl
  walk_at "sms"
  unfold blaw_l3_s2
  rw [← blaw_l3_s3.eq_def]
  walk_at "sms"
  unfold blaw_l3_s3
  rw [← blaw_l3_s4.eq_def]
  walk_at "sms"
  refine is_finite_ok hk ?_
  rw [if_pos c]
  have m100 : (0 : Int) + 100 ≤ 700000 := by decide
  have fin : ∀ {kd : D} (N : Nat), Wf 3 6 kd → kindB kd = true → RowG kd N → StE S3 S4 n (0 + 100) → OKS (blaw_l3_s5 [y0, some (.int (j : Int)), some (.int cell), some (.ref n), some kd, some (.int ((N : Int) - 1)), y6, y7, y8, y9] S4) N' B' C' T' X' := fun N hk c G st4 => law_s5 hk c G rfl st4 m100 fun _ _ _ _ _ => h _ _ _ _ _ _ _ _
  cases kc with
  | whole =>
    walk_at "sms"
    unfold blaw_l3_s4
    rw [← blaw_l3_s5.eq_def]
    walk_at "sms"
    exact fin 401 hk c G st4
  | share =>
    walk_at "sms"
    unfold blaw_l3_s4
    rw [← blaw_l3_s5.eq_def]
    walk_at "sms"
    exact fin 401 hk c G st4
  | root x x0 x1 =>
    walk_at "sms"
    unfold blaw_l3_s4
    rw [← blaw_l3_s5.eq_def]
    walk_at "sms"
    exact fin 401 hk c G st4
  | about x x0 x1 =>
    walk_at "sms"
    unfold blaw_l3_s4
    rw [← blaw_l3_s5.eq_def]
    walk_at "sms"
    exact fin 401 hk c G st4
  | sure x x0 x1 =>
    walk_at "sms"
    unfold blaw_l3_s4
    rw [← blaw_l3_s5.eq_def]
    walk_at "sms"
    exact fin 15 hk c G st4
  | rest x x0 x1 =>
    have hx : ((x.toNat : Nat) : Int) = x := Int.toNat_of_nonneg (by omega)
    have G : RowG (.tup [.str wRest, .int x]) x.toNat := G
    walk_at "sms"
    refine many_ok hk ?_
    rw [if_pos c, if_pos (by rfl)]
    rw [show cntB (D.tup [.str wRest, .int x]) = .int x from rfl]
    walk_at "sms"
    rw [show (x - 1 + 1).toNat = x.toNat by omega]
    have ln : (rangeL 0 x.toNat).length ≤ LINE := by
      rw [rangeL_len']
      exact Nat.le_trans (show x.toNat ≤ 1000 by omega) (Nat.le_of_ble_eq_true rfl)
    refine ⟨ln, ?_⟩
    refine told_all hk c G rfl rfl rfl ?_
    walk_at "sms"
    rw [show (x - 1 + 1 - 0).toNat = x.toNat by omega, rangeL_iL]
    refine ne_intL ?_
    walk_at "sms"
    unfold blaw_l3_s4
    rw [← blaw_l3_s5.eq_def]
    walk_at "sms"
    have q := fin x.toNat hk c G st4
    rw [hx] at q
    exact q
  | own u t u0 u1 =>
    have G : RowG (.tup [.str wOwn, .tup u, t]) u.length := G
    walk_at "sms"
    refine many_ok hk ?_
    rw [if_pos c, if_pos (by rfl)]
    rw [show cntB (D.tup [.str wOwn, .tup u, t]) = .int (u.length : Int) from rfl]
    walk_at "sms"
    rw [show ((u.length : Int) - 1 + 1).toNat = u.length by omega]
    have ln : (rangeL 0 u.length).length ≤ LINE := by
      rw [rangeL_len']
      exact Nat.le_trans (show u.length ≤ 1000 by omega) (Nat.le_of_ble_eq_true rfl)
    refine ⟨ln, ?_⟩
    refine told_all hk c G rfl rfl rfl ?_
    walk_at "sms"
    rw [show ((u.length : Int) - 1 + 1 - 0).toNat = u.length by omega, rangeL_iL]
    refine ne_intL ?_
    walk_at "sms"
    unfold blaw_l3_s4
    rw [← blaw_l3_s5.eq_def]
    walk_at "sms"
    exact fin u.length hk c G st4
end

section
variable {S S0 S1 : Sto} {P : D → Sto → Prop} {E : D → Sto → Prop} {n : Nat} {m : Int}
theorem law_ok {ns : List Int} (hl : ns.length ≤ 63) (h : ∀ S1, P (.bl true) S1) : OKR (flaw [.lst (ns.map .int)] []) P E := by
  unfold flaw
  with_reducible refine o_fn (by with_unfolding_all rfl) ?_
  unfold blaw
  rw [← blaw_s1.eq_def]
  generalize hb : blaw_l3 = b3
  walk_at "sms"
  refine o_addL (by
    have hL : LINE = 16777216 := rfl
    rw [List.length_map]
    show ns.length + 1 ≤ LINE
    omega) ?_
  walk_at "sms"
  show OKR (ixL (getL (.lst (ns.map D.int ++ [.int 0])) []) fun l => Res.ok (.lst (cutL l none (some 63))) []) _ _
  refine o_ok ?_
  walk_at "sms"
  refine forL_ok (fun l env S2 => (∀ d ∈ l, ∃ (j : Nat) (x : Int), d = .tup [.int j, .int x] ∧ j ≤ 63) ∧ ∃ y0 y1 y2 y3 y4 y5 y6 y7 y8 y9, env = [y0, y1, y2, y3, y4, y5, y6, y7, y8, y9]) (fun _ _ _ _ _ z => by cases z) ?_ ?_ _ _ _ ⟨fun d hd => cells_mem hl hd, _, _, _, _, _, _, _, _, _, _, rfl⟩
  · rintro d l env S2 ⟨hd, y0, y1, y2, y3, y4, y5, y6, y7, y8, y9, rfl⟩
    obtain ⟨j, cell, rfl, hj⟩ := hd d (List.mem_cons_self ..)
    refine ⟨[y0, some (.int (j : Int)), some (.int cell), y3, y4, y5, y6, y7, y8, y9], rfl, ?_⟩
    subst hb
    refine law_l3 hj fun y3 y4 y5 y6 y7 y8 y9 S1 => ?_
    exact ⟨fun x hx => hd x (List.mem_cons_of_mem _ hx), _, _, _, _, _, _, _, _, _, _, rfl⟩
  · rintro env S3 ⟨_, y0, y1, y2, y3, y4, y5, y6, y7, y8, y9, rfl⟩
    unfold blaw_s1
    walk_at "sms"
    exact h _
end
theorem law_key (ns : List Int) (h : ns.length ≤ 63) : OKR (flaw [.lst (ns.map D.int)] []) (fun d _ => d = .bl true) (fun _ _ => False) := by with_reducible exact law_ok h (fun _ => rfl)
theorem law_some (ns : List Int) (h : ns.length ≤ 63) : ∃ v S, flaw [.lst (ns.map D.int)] [] = .ok v S ∧ v = .bl true := by with_reducible exact OKR.ok (law_key ns h)
theorem law_holds (ns : List Int) (h : ns.length ≤ 63) (hb : ∀ z ∈ ns, PySem.Builtin.Int.intBits z ≤ 1048576) : ∃ S', flaw [.lst (ns.map D.int)] [] = .ok (.bl true) S' := by with_reducible exact res_true (law_some ns h)

end Sm
open PySem PySem.W PyProof.Rows
set_option maxHeartbeats 0 in
theorem PySem.Challenge.cw_towerwise_k08_whole_all_tried_holds : PySem.Challenge.rw_towerwise_k08_whole_all_tried.Holds := by
  w_on; o_law; k_head; (case hw => w_witness2)
  k_fill
  refine Sm.end_ofL (l := PySem.Challenge.rw_towerwise_k08_whole_all_tried) (n := 63) (k := 15) (x := "_law_script") (m := Sm.flaw) rfl (by decide) rfl ⟨rfl, by decide, by decide⟩ (fun w h Y => PySem.W.kIn_of Y) ?F Sm.law_holds
  case F =>
    intro w mg fa h TP KX G hmg
    refine' Sm.all_mk TP KX G hmg ?a0 ?l0 ?c0 ?k0 ?a1 ?l1 ?c1 ?k1 ?a2 ?l2 ?c2 ?k2 ?a3 ?l3 ?c3 ?k3 ?a4 ?l4 ?c4 ?k4 ?a5 ?l5 ?c5 ?k5 ?a6 ?l6 ?c6 ?k6 ?a7 ?l7 ?c7 ?k7 ?a8 ?l8 ?c8 ?k8 ?a9 ?l9 ?c9 ?k9 ?a10 ?l10 ?c10 ?k10 ?a11 ?l11 ?c11 ?k11 ?a12 ?l12 ?c12 ?k12 ?a13 ?l13 ?c13 ?k13 ?a14 ?l14 ?c14 ?k14 ?a15 ?l15 ?c15 ?k15 ?a16 ?l16 ?c16 ?k16 ?a17 ?l17 ?c17 ?k17 ?a18 ?l18 ?c18 ?k18 ?a19 ?l19 ?c19 ?k19 ?a20 ?l20 ?c20 ?k20 ?a21 ?l21 ?c21 ?k21 ?a22 ?l22 ?c22 ?k22 ?a23 ?l23 ?c23 ?k23 ?a24 ?l24 ?c24 ?k24 ?a25 ?l25 ?c25 ?k25 ?a26 ?l26 ?c26 ?k26 ?a27 ?l27 ?c27 ?k27 ?a28 ?l28 ?c28 ?k28 ?a29 ?l29 ?c29 ?k29 ?a30 ?l30 ?c30 ?k30 ?a31 ?l31 ?c31 ?k31 ?a32 ?l32 ?c32 ?k32 ?a33 ?l33 ?c33 ?k33 ?a34 ?l34 ?c34 ?k34 ?a35 ?l35 ?c35 ?k35 ?a36 ?l36 ?c36 ?k36 ?a37 ?l37 ?c37 ?k37 ?z_abs ?z_all ?z_bool ?z_enumerate ?z_int ?z_isinstance ?z_len ?z_list ?z_max ?z_min ?z_range ?z_repr ?z_set ?z_sorted ?z_str ?z_sum ?z_tuple ?g_SQUARES ?e_SQUARES ?g_MOST_POWER ?e_MOST_POWER ?g_FARTHEST ?e_FARTHEST ?g_MOST_PLACE ?e_MOST_PLACE ?g_WIDEST ?e_WIDEST ?g_SIZES ?dl_SIZES ?dk_SIZES ?dw_SIZES ?dd_SIZES ?gc0 ?lc0 ?tc0 ?nc0 ?bc0 ?gc1 ?lc1 ?tc1 ?nc1 ?bc1 ?gc2 ?lc2 ?tc2 ?nc2 ?bc2 ?gc3 ?lc3 ?tc3 ?nc3 ?bc3 ?xe1 ?xk1 ?xs1 ?xg1 ?xa1 ?xd1 ?xc1 ?xm1 ?xv1 ?xo1 ?xr1 ?xe2 ?xk2 ?xs2 ?xg2 ?xa2 ?xd2 ?xc2 ?xm2 ?xv2 ?xo2 ?xr2 ?xe3 ?xk3 ?xs3 ?xg3 ?xa3 ?xd3 ?xc3 ?xm3 ?xv3 ?xo3 ?xr3 ?xn ?xt
    (case a0 => k_is)
    (case l0 => k_is)
    (case c0 => k_is)
    (case k0 => k_is)
    (case a1 => k_is)
    (case l1 => k_is)
    (case c1 => k_is)
    (case k1 => k_is)
    (case a2 => k_is)
    (case l2 => k_is)
    (case c2 => k_is)
    (case k2 => k_is)
    (case a3 => k_is)
    (case l3 => k_is)
    (case c3 => k_is)
    (case k3 => k_is)
    (case a4 => k_is)
    (case l4 => k_is)
    (case c4 => k_is)
    (case k4 => k_is)
    (case a5 => k_is)
    (case l5 => k_is)
    (case c5 => k_is)
    (case k5 => k_is)
    (case a6 => k_is)
    (case l6 => k_is)
    (case c6 => k_is)
    (case k6 => k_is)
    (case a7 => k_is)
    (case l7 => k_is)
    (case c7 => k_is)
    (case k7 => k_is)
    (case a8 => k_is)
    (case l8 => k_is)
    (case c8 => k_is)
    (case k8 => k_is)
    (case a9 => k_is)
    (case l9 => k_is)
    (case c9 => k_is)
    (case k9 => k_is)
    (case a10 => k_is)
    (case l10 => k_is)
    (case c10 => k_is)
    (case k10 => k_is)
    (case a11 => k_is)
    (case l11 => k_is)
    (case c11 => k_is)
    (case k11 => k_is)
    (case a12 => k_is)
    (case l12 => k_is)
    (case c12 => k_is)
    (case k12 => k_is)
    (case a13 => k_is)
    (case l13 => k_is)
    (case c13 => k_is)
    (case k13 => k_is)
    (case a14 => k_is)
    (case l14 => k_is)
    (case c14 => k_is)
    (case k14 => k_is)
    (case a15 => k_is)
    (case l15 => k_is)
    (case c15 => k_is)
    (case k15 => k_is)
    (case a16 => k_is)
    (case l16 => k_is)
    (case c16 => k_is)
    (case k16 => k_is)
    (case a17 => k_is)
    (case l17 => k_is)
    (case c17 => k_is)
    (case k17 => k_is)
    (case a18 => k_is)
    (case l18 => k_is)
    (case c18 => k_is)
    (case k18 => k_is)
    (case a19 => k_is)
    (case l19 => k_is)
    (case c19 => k_is)
    (case k19 => k_is)
    (case a20 => k_is)
    (case l20 => k_is)
    (case c20 => k_is)
    (case k20 => k_is)
    (case a21 => k_is)
    (case l21 => k_is)
    (case c21 => k_is)
    (case k21 => k_is)
    (case a22 => k_is)
    (case l22 => k_is)
    (case c22 => k_is)
    (case k22 => k_is)
    (case a23 => k_is)
    (case l23 => k_is)
    (case c23 => k_is)
    (case k23 => k_is)
    (case a24 => k_is)
    (case l24 => k_is)
    (case c24 => k_is)
    (case k24 => k_is)
    (case a25 => k_is)
    (case l25 => k_is)
    (case c25 => k_is)
    (case k25 => k_is)
    (case a26 => k_is)
    (case l26 => k_is)
    (case c26 => k_is)
    (case k26 => k_is)
    (case a27 => k_is)
    (case l27 => k_is)
    (case c27 => k_is)
    (case k27 => k_is)
    (case a28 => k_is)
    (case l28 => k_is)
    (case c28 => k_is)
    (case k28 => k_is)
    (case a29 => k_is)
    (case l29 => k_is)
    (case c29 => k_is)
    (case k29 => k_is)
    (case a30 => k_is)
    (case l30 => k_is)
    (case c30 => k_is)
    (case k30 => k_is)
    (case a31 => k_is)
    (case l31 => k_is)
    (case c31 => k_is)
    (case k31 => k_is)
    (case a32 => k_is)
    (case l32 => k_is)
    (case c32 => k_is)
    (case k32 => k_is)
    (case a33 => k_is)
    (case l33 => k_is)
    (case c33 => k_is)
    (case k33 => k_is)
    (case a34 => k_is)
    (case l34 => k_is)
    (case c34 => k_is)
    (case k34 => k_is)
    (case a35 => k_is)
    (case l35 => k_is)
    (case c35 => k_is)
    (case k35 => k_is)
    (case a36 => k_is)
    (case l36 => k_is)
    (case c36 => k_is)
    (case k36 => k_is)
    (case a37 => k_is)
    (case l37 => k_is)
    (case c37 => k_is)
    (case k37 => k_is)
    (case z_abs => k_is)
    (case z_all => k_is)
    (case z_bool => k_is)
    (case z_enumerate => k_is)
    (case z_int => k_is)
    (case z_isinstance => k_is)
    (case z_len => k_is)
    (case z_list => k_is)
    (case z_max => k_is)
    (case z_min => k_is)
    (case z_range => k_is)
    (case z_repr => k_is)
    (case z_set => k_is)
    (case z_sorted => k_is)
    (case z_str => k_is)
    (case z_sum => k_is)
    (case z_tuple => k_is)
    (case g_SQUARES => k_is)
    (case e_SQUARES => (refine' Sm.kc_tup ?kql1 ?kqs1 ?kqi1; (case kql1 => k_is); (case kqs1 => decide); (case kqi1 => (refine' Sm.kc_cons ?kqh2 ?kqt2; (case kqh2 => exact rfl); (case kqt2 => (refine' Sm.kc_cons ?kqh3 ?kqt3; (case kqh3 => exact rfl); (case kqt3 => (refine' Sm.kc_cons ?kqh4 ?kqt4; (case kqh4 => exact rfl); (case kqt4 => (refine' Sm.kc_cons ?kqh5 ?kqt5; (case kqh5 => exact rfl); (case kqt5 => exact Sm.kc_nil)))))))))))
    (case g_MOST_POWER => k_is)
    (case e_MOST_POWER => exact rfl)
    (case g_FARTHEST => k_is)
    (case e_FARTHEST => exact rfl)
    (case g_MOST_PLACE => k_is)
    (case e_MOST_PLACE => exact rfl)
    (case g_WIDEST => k_is)
    (case e_WIDEST => exact rfl)
    (case g_SIZES => k_is)
    (case dl_SIZES => k_is)
    (case dk_SIZES => exact ⟨⟨_, _, rfl, rfl⟩, ⟨_, _, rfl, rfl⟩, ⟨_, _, rfl, rfl⟩, trivial⟩)
    (case dw_SIZES => decide)
    (case dd_SIZES => (refine' Sm.KdE.cons ?kqh6 ?kqv6 ?kqt6; (case kqh6 => rfl); (case kqv6 => (refine' Sm.kc_tup ?kql7 ?kqs7 ?kqi7; (case kql7 => k_is); (case kqs7 => decide); (case kqi7 => (refine' Sm.kc_cons ?kqh8 ?kqt8; (case kqh8 => exact rfl); (case kqt8 => (refine' Sm.kc_cons ?kqh9 ?kqt9; (case kqh9 => exact rfl); (case kqt9 => exact Sm.kc_nil))))))); (case kqt6 => (refine' Sm.KdE.cons ?kqh10 ?kqv10 ?kqt10; (case kqh10 => rfl); (case kqv10 => (refine' Sm.kc_tup ?kql11 ?kqs11 ?kqi11; (case kql11 => k_is); (case kqs11 => decide); (case kqi11 => (refine' Sm.kc_cons ?kqh12 ?kqt12; (case kqh12 => exact rfl); (case kqt12 => (refine' Sm.kc_cons ?kqh13 ?kqt13; (case kqh13 => exact rfl); (case kqt13 => exact Sm.kc_nil))))))); (case kqt10 => (refine' Sm.KdE.cons ?kqh14 ?kqv14 ?kqt14; (case kqh14 => rfl); (case kqv14 => (refine' Sm.kc_tup ?kql15 ?kqs15 ?kqi15; (case kql15 => k_is); (case kqs15 => decide); (case kqi15 => (refine' Sm.kc_cons ?kqh16 ?kqt16; (case kqh16 => exact rfl); (case kqt16 => (refine' Sm.kc_cons ?kqh17 ?kqt17; (case kqh17 => exact rfl); (case kqt17 => exact Sm.kc_nil))))))); (case kqt14 => exact Sm.KdE.nil)))))))
    (case gc0 => k_is)
    (case lc0 => k_is)
    (case tc0 => k_is)
    (case nc0 => exact rfl)
    (case bc0 => decide +kernel)
    (case gc1 => k_is)
    (case lc1 => k_is)
    (case tc1 => k_is)
    (case nc1 => exact rfl)
    (case bc1 => decide +kernel)
    (case gc2 => k_is)
    (case lc2 => k_is)
    (case tc2 => k_is)
    (case nc2 => exact rfl)
    (case bc2 => decide +kernel)
    (case gc3 => k_is)
    (case lc3 => k_is)
    (case tc3 => k_is)
    (case nc3 => exact rfl)
    (case bc3 => decide +kernel)
    (case xe1 => k_exc)
    (case xk1 => k_is)
    (case xs1 => k_is)
    (case xg1 => k_is)
    (case xa1 => k_is)
    (case xd1 => k_is)
    (case xc1 => k_is)
    (case xm1 => k_is)
    (case xv1 => decide +kernel)
    (case xo1 => decide +kernel)
    (case xr1 => decide +kernel)
    (case xe2 => k_exc)
    (case xk2 => k_is)
    (case xs2 => k_is)
    (case xg2 => k_is)
    (case xa2 => k_is)
    (case xd2 => k_is)
    (case xc2 => k_is)
    (case xm2 => k_is)
    (case xv2 => decide +kernel)
    (case xo2 => decide +kernel)
    (case xr2 => decide +kernel)
    (case xe3 => k_exc)
    (case xk3 => k_is)
    (case xs3 => k_is)
    (case xg3 => k_is)
    (case xa3 => k_is)
    (case xd3 => k_is)
    (case xc3 => k_is)
    (case xm3 => k_is)
    (case xv3 => decide +kernel)
    (case xo3 => decide +kernel)
    (case xr3 => decide +kernel)
    (case xn => k_is)
    (case xt => k_is)
