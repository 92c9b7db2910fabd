import PyProof.Rows.All
import Wide.All
import OpenK.AllK
import Wide.FinOn
import HandS.Call
import HandS.List
import HandS.TupAny
import HandS.Iter
import HandS.Base
import HandS.Comp
import HandS.Exc
import HandS.ExcOwn
import HandS.Wide
import HandS.Text
import HandS.Flow
import HandS.Dict
import HandS.Deep
import HandS.Conv
import HandS.WordsDict
import HandS.More
import HandS.SetKeys
import HandS.IsInst
import HandS.CallSlots
import HandS.Style
import HandS.ExcInit
import HandS.TryOnly
import HandS.WordsExc
import HandS.MakeKw
import HandS.RaiseFrom
import HandS.Strs
import HandS.ExcField
import HandS.ExcIs
import KE.KExcIs
import HandS.Sort
import HandS.TupMul
import HandS.Replace
import HandS.Codes
import PyProof.Rows.StrJoinRep
import HandS.OwnEq
import PySem.Challenge.RW_codeasks_k02_no_program
set_option Elab.async false
set_option linter.all false
set_option maxRecDepth 100000
/-! PLFz: tuples made, the very object kept in mind: it has no dict. -/
namespace PLz
open PySem PySem.Spec PyProof.Rows L2
/-- the heap with a new tuple at p -/
def NewT (H : Hp) (p : Addr) (xs : List V) (Q : Hp → Prop) : Prop := ∀ o : Obj, o.dict = none → Q (upd H p (.frz o (.tup xs)))
section
variable {X : Cx} {es : List Expr} {pos : Pos}
def tTupZ (t : TA) : TE := fun σ H Q => t σ H fun xs H1 => xs.length ≤ sizeLine ∧ ∀ p, H1 p = none → NewT H1 p xs (Q (.ref p))
theorem pe_tupZ {x1} {t : TA} (h : PA X es t) : PE X (.Tuple es x1 pos) (tTupZ t) := by
  refine ⟨fun pins s σ H Q I hq => ?_⟩
  refine wpAny_Tuple_spliced (thn (h.run pos pins s σ H _ I hq) fun us s1 ⟨xs, H1, I1, r, z, q⟩ => ⟨by rw [← r.length]; exact z, ?_⟩)
  have hf : H1 s1.heap.objs.size = none := I1.hok.fresh (Nat.le_refl _)
  refine ⟨.ref s1.heap.objs.size, upd H1 s1.heap.objs.size (.frz { cls := .type "tuple", data := .seq us.toArray } (.tup xs)), I1.laid (t' := s1.toks) (fun b u e => Heap.get?_push_of_some _ e) (Nat.le_refl _) ?_, rfl, q _ hf _ rfl⟩
  exact ⟨Heap.get?_push_size _ rfl, z, us, r, ⟨_, Heap.get?_push_size _ rfl, rfl, _, rfl⟩⟩
def rSlTZ (K : PySem.W.Frag) : V → Option Int → Option Int → Hp → VK → Prop := fun x lo hi H Q => ∃ a xs, x = .ref a ∧ SqT K H a xs ∧
  (HT.sIx xs.length 0 lo = 0 ∧ HT.sIx xs.length xs.length hi = xs.length → Q (.ref a) H) ∧
  (¬ (HT.sIx xs.length 0 lo = 0 ∧ HT.sIx xs.length xs.length hi = xs.length) → ∀ p, H p = none → NewT H p (cutV xs lo hi) (Q (.ref p)))
theorem sl_tupZ : SlR X (rSlTZ X.K) := by
  intro pins s σ H x v vl vu lo hi sl Q I rx hs pl pu h
  obtain ⟨a, xs, rfl, hx, q1, q2⟩ := h
  cases rx
  obtain ⟨its, r, ht, hz⟩ := I.tuple hx
  have hlen : its.toArray.size = xs.length := by rw [List.size_toArray]; exact r.length.symm
  refine ⟨"tuple", _, PyProof.Rows.slot_tuple_getitem.lookup, ht.typeIs, ?_⟩
  by_cases hw : HT.sIx xs.length 0 lo = 0 ∧ HT.sIx xs.length xs.length hi = xs.length
  · exact getItem_tuple_whole ht hs pl pu (by rw [hlen]; exact hw) ⟨.ref a, H, I, rfl, q1 hw⟩
  refine HT.getItem_tuple_cut ht hs pl pu (by rw [hlen]; exact hw) ?_ (by rw [hlen]; exact hz)
  rw [hlen]
  refine ⟨.ref s.heap.objs.size, _, I.laid (t' := s.toks) (o := .frz { cls := .type "tuple", data := .seq ((its.drop (HT.sIx xs.length 0 lo)).take (HT.sIx xs.length xs.length hi - HT.sIx xs.length 0 lo)).toArray } (.tup (cutV xs lo hi))) (fun b ob q => Heap.get?_push_of_some _ q) (Nat.le_refl _) ?_, rfl, q2 hw _ (I.hok.fresh (Nat.le_refl _)) _ rfl⟩
  exact ⟨Heap.get?_push_size _ rfl, Nat.le_trans (cutV_length xs lo hi) hz, _, (r.drop (HT.sIx xs.length 0 lo)).take (HT.sIx xs.length xs.length hi - HT.sIx xs.length 0 lo), IsTup.new _ _⟩
def rCatZ (K : PySem.W.Frag) : R2 := fun x y H Q => ∃ a b xs ys, x = .ref a ∧ y = .ref b ∧ SqT K H a xs ∧ SqT K H b ys ∧ xs.length + ys.length ≤ sizeLine ∧
  (xs = [] → Q (.ref b) H) ∧ (xs ≠ [] → ys = [] → Q (.ref a) H) ∧ (xs ≠ [] → ys ≠ [] → ∀ p, H p = none → NewT H p (xs ++ ys) (Q (.ref p)))
theorem op_catZ : OpR X (binaryOp .Add) (rCatZ X.K) := by
  intro pins s σ H x y v u Q I rx ry h
  obtain ⟨a, b, xs, ys, rfl, rfl, ha, hb, hz, q0, q1, q2⟩ := h
  cases rx
  cases ry
  obtain ⟨its, r1, p1, _⟩ := I.tuple ha
  obtain ⟨its2, r2, p2, _⟩ := I.tuple hb
  by_cases hx : xs = []
  · subst hx
    cases r1
    exact cat_tup0 p1 p2 ⟨.ref b, H, I, rfl, q0 rfl⟩
  refine HT.cat_tup p1 p2 (fun z => hx (r1.nil_iff.mp z)) (fun z => ⟨.ref a, H, I, rfl, q1 hx (r2.nil_iff.mp z)⟩) (fun z => ?_) (by rw [← r1.length, ← r2.length]; exact hz)
  refine ⟨.ref s.heap.objs.size, _, I.laid (t' := s.toks) (o := .frz { cls := .type "tuple", data := .seq (its ++ its2).toArray } (.tup (xs ++ ys))) (fun b ob q => Heap.get?_push_of_some _ q) (Nat.le_refl _) ?_, rfl, q2 hx (fun w => z (r2.nil_iff.mpr w)) _ (I.hok.fresh (Nat.le_refl _)) _ rfl⟩
  exact ⟨Heap.get?_push_size _ rfl, by rw [List.length_append]; exact hz, _, r1.append r2, IsTup.new _ _⟩
theorem call_tupleZ : CallR X (.type "tuple") (fun xs H Q => ∃ p ys, xs = [.ref p] ∧ ((SqL X.K H p ys ∧ ∀ l, H l = none → NewT H l ys (Q (.ref l))) ∨ (SqT X.K H p ys ∧ Q (.ref p) H))) := by
  intro pins s σ H xs us Q I r h
  obtain ⟨p, ys, rfl, h⟩ := h
  obtain ⟨u, rfl, rx⟩ := r.one
  cases rx
  rcases h with ⟨hq, q⟩ | ⟨hq, q⟩
  · obtain ⟨its, r', pl, hz⟩ := I.list hq
    have hlen := r'.length
    refine call_tuple_list pl.isList (fun h' kp => ?_) (by simp only [List.size_toArray] <;> omega)
    have I1 : Inv X pins σ H { s with heap := h' } := I.kept (t' := s.toks) kp
    have I2 : Inv X pins σ (upd H h'.objs.size (.frz { cls := .type "tuple", data := .seq its.toArray } (.tup ys))) { s with heap := h'.push { cls := .type "tuple", data := .seq its.toArray } } :=
      I1.laid (t' := s.toks) (fun b o e => Heap.get?_push_of_some _ e) (Nat.le_refl _) (show ObjOk X.prog X.w _ _ _ (.frz _ (.tup ys)) from ⟨Heap.get?_push_size _ rfl, hz, its, r', IsTup.new _ _⟩)
    exact ⟨.ref h'.objs.size, _, I2, rfl, q _ (I1.hok.fresh (Nat.le_refl _)) _ rfl⟩
  · obtain ⟨its, r', pl, hz⟩ := I.tuple hq
    exact call_tuple_same pl ⟨.ref p, H, I, rfl, q⟩
end
/-! ### enumerate(list) -/
def Itez (K : PySem.W.Frag) (a : Addr) : It :=
  ⟨fun i H => ∃ (xs : List V) (x : V), SqL K H a xs ∧ xs[i]? = some x, fun i H v H' => ∃ T x o, v = .ref T ∧ H T = none ∧ o.dict = none ∧ H' = upd H T (.frz o (.tup [.int (i : Nat), x])) ∧ ∀ xs, SqL K H a xs → xs[i]? = some x, fun i H => ∃ xs : List V, SqL K H a xs ∧ xs.length ≤ i⟩
theorem turn_enumZ {P : Program} {w : World} {K : PySem.W.Frag} {elts : List Expr} {kk : Nat} {tpos : Pos} (a e it : Addr) :
    Turn P w K (.Tuple elts kk tpos) (Itez K a) [e, it] e (fun i h => (∃ old, IsEnum h e it ((i : Nat) : Int) old) ∧ h.IsListIter it a i ∧ e ≠ it) where
  mem := by simp
  obj := (turn_enum (P := P) (w := w) (K := K) (elts := elts) (kk := kk) (tpos := tpos) a e it).obj
  keep := (turn_enum (P := P) (w := w) (K := K) (elts := elts) (kk := kk) (tpos := tpos) a e it).keep
  item := by
    intro X hP hw hK hc i pins s σ H E I hf st hg
    subst hP hw hK
    obtain ⟨⟨old, he⟩, hit, hne⟩ := st
    obtain ⟨xs, x, hq, hx⟩ := hg
    obtain ⟨its, rv, p, hz⟩ := I.list hq
    obtain ⟨u, hu, ru⟩ := rv.get hx
    have hel : e < s.heap.objs.size := Heap.lt_size he
    have hil : it < s.heap.objs.size := by obtain ⟨_, q, _⟩ := hit; exact Heap.lt_size q
    refine wpAny_pyNext_enum_item he hit p.isList (x := u) (by simpa using hu) hne fun h' ho hit' hT hsz hk => ?_
    refine ⟨_, rfl, wpAny_letOwnedTupleGo_enum (s := { s with heap := h', toks := s.toks + 1 }) ho fun h'' he' sb => ?_⟩
    have hT2 : h''.get? s.heap.objs.size = some { cls := .type "tuple", data := .seq #[.int i s.toks, u] } := (sb.2 _ (Nat.ne_of_gt hel)).trans hT
    have new : ObjOk X.prog X.w (upd H s.heap.objs.size (.frz { cls := .type "tuple", data := .seq #[.int i s.toks, u] } (.tup [.int (i : Nat), x]))) h'' s.heap.objs.size (.frz { cls := .type "tuple", data := .seq #[.int i s.toks, u] } (.tup [.int (i : Nat), x])) :=
      ⟨hT2, by show 2 ≤ sizeLine; decide, [.int i s.toks, u], .cons ⟨_, rfl⟩ (.cons ru .nil), ⟨_, hT2, rfl, _, rfl⟩⟩
    have I1 : Inv X pins σ (upd H s.heap.objs.size (.frz { cls := .type "tuple", data := .seq #[.int i s.toks, u] } (.tup [.int (i : Nat), x]))) { s with heap := h'', toks := s.toks + 1 } :=
      I.turnedNew (ch := [e, it]) (fun b ob hb q => (sb.2 b (fun z => hb (by simp [z]))).trans (hk b ob (fun z => hb (by simp [z])) (fun z => hb (by simp [z])) q)) hf (Nat.le_refl _) new
    refine ⟨.ref s.heap.objs.size, _, I1, rfl, ⟨_, x, _, rfl, I.hok.fresh (Nat.le_refl _), rfl, rfl, fun ys hy => by rw [I.list_inj hy hq]; exact hx⟩, ⟨⟨u, ?_⟩, hit'.at fun o q => (sb.2 it (Ne.symm hne)).trans q, hne⟩, fun b hb => ?_⟩
    · have e1 : ((i + 1 : Nat) : Int) = (i : Int) + 1 := by omega
      rw [e1]; exact he'
    · have hb' : b < s.heap.objs.size := by
        have e' : b = e ∨ b = it := by simpa using hb
        rcases e' with z | z
        · rw [z]; exact hel
        · rw [z]; exact hil
      rw [upd_ne (Nat.ne_of_lt hb')]
      exact (hf b hb).1
  done := by
    intro X hP hw hK hc i pins s σ H E I hf st hg
    exact (turn_enum (elts := elts) (kk := kk) (tpos := tpos) a e it).done X hP hw hK hc i pins s σ H E I hf st hg
  self := fun A i s Q E st h => let ⟨⟨_, he⟩, _⟩ := st; wpAny_pyIter_enum he h
def iEnumZ (K : PySem.W.Frag) (ta : TA) : TI := fun σ H R => ta σ H fun vs H1 => ∃ a xs, vs = [.ref a] ∧ SqL K H1 a xs ∧ R (Itez K a) H1
theorem pi_enumZ {X : Cx} {e : Expr} {ta : TA} {p pos tpos : Pos} {elts : List Expr} {kk : Nat} (hg : Gl X "enumerate") (hm : X.mg "enumerate" = none) (ha : PA X [e] ta) (hs : starEach [e] X.env = [(false, eval e X.env)] := by rfl) :
    PI X (.Tuple elts kk tpos) (.Call (.Name "enumerate" p) [e] [] pos) (iEnumZ X.K ta) := by
  refine ⟨fun pins s σ H R I h => ?_⟩
  refine Call_ (ld_blt I hg hm boot_enumerate (PyProof.Rows.callWith_type1 (thn (ha.run pos pins s σ H _ I h) fun us s1 ⟨vs, H1, I1, r1, q1⟩ => ?_) hs rfl))
  obtain ⟨a, xs, ex, hq, q⟩ := q1
  subst ex
  cases r1 with
  | cons r rr =>
    cases rr
    cases r
    obtain ⟨its, rv, p', hz⟩ := I1.list hq
    refine call_enumerate_list p'.isList fun h' he hit hsz hk => wpAny_pyIter_enum he ?_
    have I2 : Inv X pins σ H1 { s1 with heap := h' } := I1.kept (t' := s1.toks) hk
    refine ⟨s1.heap.objs.size + 1, [s1.heap.objs.size + 1, s1.heap.objs.size], _, _, H1, rfl, I2, turn_enumZ a (s1.heap.objs.size + 1) s1.heap.objs.size, ⟨⟨.none, he⟩, hit, Nat.succ_ne_self _⟩, fun b hb => ?_, q⟩
    have e' : b = s1.heap.objs.size + 1 ∨ b = s1.heap.objs.size := by simpa using hb
    have hle : s1.heap.objs.size ≤ b := by
      rcases e' with z | z
      · rw [z]; exact Nat.le_add_right _ _
      · rw [z]; exact Nat.le_refl _
    exact I1.fpOk hle (I1.hok.fresh hle)
end PLz
/-! PLA: pure values, the store, outcomes, the relation to the abstract heap. -/
namespace PL
open PySem PySem.Spec PyProof.Rows L2

/-- a value: tuples are pure; loc l is the l-th object of the store; fls is a list that stands still -/
inductive PV where
  | non | bl (b : Bool) | int (i : Int) | str (x : Str) | tup (xs : List PV) | fls (xs : List PV) | loc (l : Nat)
instance : Inhabited PV := ⟨.non⟩
/-- an object of the store -/
inductive Ob where
  | lst (xs : List PV)
  | dct (kvs : List (Key × PV))
  | ins (C : Str) (fs : List (Str × PV))
instance : Inhabited Ob := ⟨.lst []⟩
abbrev Sto := List Ob
abbrev En := List (Option PV)

inductive Out (α : Type) where
  | ok (a : α) (S : Sto) | er (c : Str) (p : PV) (S : Sto) | bad
abbrev EM (α : Type) := En → Sto → Out α
inductive OS where
  | nx (τ : En) (S : Sto) | rt (v : PV) (S : Sto) | er (c : Str) (p : PV) (τ : En) (S : Sto) | bad
abbrev SM := En → Sto → OS

def bnd {α β : Type} (o : Out α) (f : α → Sto → Out β) : Out β :=
  match o with
  | .ok a S => f a S
  | .er c p S => .er c p S
  | .bad => .bad
@[simp] theorem bnd_ok {α β : Type} (a : α) (S : Sto) (f : α → Sto → Out β) : bnd (.ok a S) f = f a S := rfl
@[simp] theorem bnd_er {α β : Type} (c : Str) (p : PV) (S : Sto) (f : α → Sto → Out β) : bnd (.er c p S) f = .er c p S := rfl
@[simp] theorem bnd_bad {α β : Type} (f : α → Sto → Out β) : bnd .bad f = .bad := rfl

def wp {α : Type} (o : Out α) (P : α → Sto → Prop) (R : Str → PV → Sto → Prop) : Prop :=
  match o with
  | .ok a S => P a S
  | .er c p S => R c p S
  | .bad => False
@[simp] theorem wp_ok {α : Type} (a : α) (S : Sto) (P : α → Sto → Prop) (R : Str → PV → Sto → Prop) : wp (.ok a S) P R = P a S := rfl
@[simp] theorem wp_er {α : Type} (c : Str) (p : PV) (S : Sto) (P : α → Sto → Prop) (R : Str → PV → Sto → Prop) : wp (.er c p S : Out α) P R = R c p S := rfl
@[simp] theorem wp_bad {α : Type} (P : α → Sto → Prop) (R : Str → PV → Sto → Prop) : wp (.bad : Out α) P R = False := rfl
theorem wp_bnd {α β : Type} (o : Out α) (f : α → Sto → Out β) (P : β → Sto → Prop) (R : Str → PV → Sto → Prop) : wp (bnd o f) P R = wp o (fun a S => wp (f a S) P R) R := by
  cases o <;> rfl
theorem wp_mono {α : Type} {o : Out α} {P P' : α → Sto → Prop} {R R' : Str → PV → Sto → Prop} (h : wp o P R) (hP : ∀ a S, P a S → P' a S) (hR : ∀ c p S, R c p S → R' c p S) : wp o P' R' := by
  cases o with
  | ok a S => exact hP a S h
  | er c p S => exact hR c p S h
  | bad => exact h
def wpS (o : OS) (N : En → Sto → Prop) (T : PV → Sto → Prop) (R : Str → PV → En → Sto → Prop) : Prop :=
  match o with
  | .nx τ S => N τ S
  | .rt v S => T v S
  | .er c p τ S => R c p τ S
  | .bad => False
@[simp] theorem wpS_nx (τ : En) (S : Sto) (N : En → Sto → Prop) (T : PV → Sto → Prop) (R : Str → PV → En → Sto → Prop) : wpS (.nx τ S) N T R = N τ S := rfl
@[simp] theorem wpS_rt (v : PV) (S : Sto) (N : En → Sto → Prop) (T : PV → Sto → Prop) (R : Str → PV → En → Sto → Prop) : wpS (.rt v S) N T R = T v S := rfl
@[simp] theorem wpS_er (c : Str) (p : PV) (τ : En) (S : Sto) (N : En → Sto → Prop) (T : PV → Sto → Prop) (R : Str → PV → En → Sto → Prop) : wpS (.er c p τ S) N T R = R c p τ S := rfl
@[simp] theorem wpS_bad (N : En → Sto → Prop) (T : PV → Sto → Prop) (R : Str → PV → En → Sto → Prop) : wpS .bad N T R = False := rfl
theorem wpS_mono {o : OS} {N N' : En → Sto → Prop} {T T' : PV → Sto → Prop} {R R' : Str → PV → En → Sto → Prop} (h : wpS o N T R) (hN : ∀ τ S, N τ S → N' τ S) (hT : ∀ v S, T v S → T' v S) (hR : ∀ c p τ S, R c p τ S → R' c p τ S) : wpS o N' T' R' := by
  cases o with
  | nx τ S => exact hN τ S h
  | rt v S => exact hT v S h
  | er c p τ S => exact hR c p τ S h
  | bad => exact h

/-! ### values and the heap -/
/-- a list that stands still: locked, or written -/
def FzL (K : PySem.W.Frag) (H : Hp) (a : Addr) (xs : List V) : Prop :=
  (∃ o, H a = some (.frz o (.lst xs))) ∨
    ∃ (o : Obj) (its : Array Value) (n : Nat), K.lookup a = some o ∧ o.cls = .type "list" ∧ o.dict = none ∧ o.data = .seq its n ∧ its.size ≤ sizeLine ∧ Vals xs its.toList
/-- a tuple: tracked, or written -/
def FzT (K : PySem.W.Frag) (H : Hp) (a : Addr) (xs : List V) : Prop :=
  (∃ o : Obj, H a = some (.frz o (.tup xs)) ∧ o.dict = none) ∨
    ∃ (o : Obj) (its : Array Value) (n : Nat), K.lookup a = some o ∧ o.cls = .type "tuple" ∧ o.dict = none ∧ o.data = .seq its n ∧ its.size ≤ sizeLine ∧ Vals xs its.toList
theorem FzL.seq {K : PySem.W.Frag} {H : Hp} {a : Addr} {xs : List V} (h : FzL K H a xs) : SqL K H a xs := by
  rcases h with h | h
  · exact .inl (.inr h)
  · exact .inr h
theorem FzT.seq {K : PySem.W.Frag} {H : Hp} {a : Addr} {xs : List V} (h : FzT K H a xs) : SqT K H a xs := by
  rcases h with ⟨o, h, _⟩ | ⟨o, its, n, h1, h2, _, h3⟩
  · exact .inl (.inr ⟨o, h⟩)
  · exact .inr ⟨o, its, n, h1, h2, h3⟩

mutual
def Rp (K : PySem.W.Frag) (ι : List Addr) (H : Hp) : PV → V → Prop
  | .non, v => v = .non
  | .bl b, v => v = .bl b
  | .int i, v => v = .int i
  | .str x, v => v = .str x
  | .tup xs, v => ∃ a vs, v = .ref a ∧ FzT K H a vs ∧ RpL K ι H xs vs
  | .fls xs, v => ∃ a vs, v = .ref a ∧ FzL K H a vs ∧ RpL K ι H xs vs
  | .loc l, v => ∃ a, v = .ref a ∧ ι[l]? = some a
def RpL (K : PySem.W.Frag) (ι : List Addr) (H : Hp) : List PV → List V → Prop
  | [], vs => vs = []
  | x :: xs, vs => ∃ v r, vs = v :: r ∧ Rp K ι H x v ∧ RpL K ι H xs r
end

/-- what later heaps keep -/
structure Ext (ι : List Addr) (H : Hp) (ι' : List Addr) (H' : Hp) : Prop where
  pre : ∀ (l : Nat) (a : Addr), ι[l]? = some a → ι'[l]? = some a
  fr : ∀ a o, H a = some o → a ∉ ι → H' a = some o
  new : ∀ a, a ∈ ι' → a ∈ ι ∨ H a = none
  tups : ∀ a xs, H a = some (.tup xs) → H' a = some (.tup xs)
  frzs : ∀ a o u, H a = some (.frz o u) → H' a = some (.frz o u)
theorem Ext.refl {ι : List Addr} {H : Hp} : Ext ι H ι H := ⟨fun _ _ h => h, fun _ _ h _ => h, fun _ h => .inl h, fun _ _ h => h, fun _ _ _ h => h⟩
theorem Ext.trans {ι ι1 ι2 : List Addr} {H H1 H2 : Hp} (a : Ext ι H ι1 H1) (b : Ext ι1 H1 ι2 H2) : Ext ι H ι2 H2 where
  pre := fun l x h => b.pre l x (a.pre l x h)
  fr := fun x o h n => b.fr x o (a.fr x o h n) fun m => by
    rcases a.new x m with q | q
    · exact n q
    · rw [h] at q; cases q
  new := fun x m => by
    rcases b.new x m with q | q
    · exact a.new x q
    · cases e : H x with
      | none => exact .inr rfl
      | some o =>
        by_cases hx : x ∈ ι
        · exact .inl hx
        · rw [a.fr x o e hx] at q; cases q
  tups := fun x xs h => b.tups x xs (a.tups x xs h)
  frzs := fun x o u h => b.frzs x o u (a.frzs x o u h)

section
variable {K : PySem.W.Frag} {ι ι' : List Addr} {H H' : Hp}
theorem FzT.mono {a : Addr} {xs : List V} (h : FzT K H a xs) (e : Ext ι H ι' H') : FzT K H' a xs := by
  rcases h with ⟨o, h, hd⟩ | h
  · exact .inl ⟨o, e.frzs a o _ h, hd⟩
  · exact .inr h
theorem FzL.mono {a : Addr} {xs : List V} (h : FzL K H a xs) (e : Ext ι H ι' H') : FzL K H' a xs := by
  rcases h with ⟨o, h⟩ | h
  · exact .inl ⟨o, e.frzs a o _ h⟩
  · exact .inr h
mutual
theorem Rp.mono (e : Ext ι H ι' H') : ∀ (x : PV) (v : V), Rp K ι H x v → Rp K ι' H' x v
  | .non, _, h => h
  | .bl _, _, h => h
  | .int _, _, h => h
  | .str _, _, h => h
  | .tup xs, v, h => by
    obtain ⟨a, vs, e1, e2, e3⟩ := h
    exact ⟨a, vs, e1, e2.mono e, RpL.mono e xs vs e3⟩
  | .fls xs, v, h => by
    obtain ⟨a, vs, e1, e2, e3⟩ := h
    exact ⟨a, vs, e1, e2.mono e, RpL.mono e xs vs e3⟩
  | .loc l, v, h => by
    obtain ⟨a, e1, e2⟩ := h
    exact ⟨a, e1, e.pre l a e2⟩
theorem RpL.mono (e : Ext ι H ι' H') : ∀ (xs : List PV) (vs : List V), RpL K ι H xs vs → RpL K ι' H' xs vs
  | [], _, h => h
  | x :: xs, vs, h => by
    obtain ⟨v, r, e1, e2, e3⟩ := h
    exact ⟨v, r, e1, Rp.mono e x v e2, RpL.mono e xs r e3⟩
end
theorem Rp.up {x : PV} {v : V} (h : Rp K ι H x v) (e : Ext ι H ι' H') : Rp K ι' H' x v := Rp.mono e x v h
theorem RpL.up {xs : List PV} {vs : List V} (h : RpL K ι H xs vs) (e : Ext ι H ι' H') : RpL K ι' H' xs vs := RpL.mono e xs vs h

theorem RpL.length : ∀ {xs : List PV} {vs : List V}, RpL K ι H xs vs → xs.length = vs.length
  | [], _, h => by have h : _ = [] := h; subst h; rfl
  | x :: xs, vs, h => by
    obtain ⟨v, r, rfl, _, e3⟩ := h
    simp [RpL.length e3]
theorem RpL.get : ∀ {xs : List PV} {vs : List V} {i : Nat} {x : PV}, RpL K ι H xs vs → xs[i]? = some x → ∃ v, vs[i]? = some v ∧ Rp K ι H x v
  | [], _, _, _, _, e => by simp at e
  | y :: xs, vs, 0, x, h, e => by
    obtain ⟨v, r, rfl, e2, e3⟩ := h
    simp at e; subst e
    exact ⟨v, rfl, e2⟩
  | y :: xs, vs, i + 1, x, h, e => by
    obtain ⟨v, r, rfl, e2, e3⟩ := h
    obtain ⟨v', h1, h2⟩ := RpL.get (i := i) e3 (by simpa using e)
    exact ⟨v', by simpa using h1, h2⟩
theorem RpL.app : ∀ {xs ys : List PV} {vs ws : List V}, RpL K ι H xs vs → RpL K ι H ys ws → RpL K ι H (xs ++ ys) (vs ++ ws)
  | [], _, _, _, h, h' => by have h : _ = [] := h; subst h; exact h'
  | x :: xs, _, _, _, h, h' => by
    obtain ⟨v, r, rfl, e2, e3⟩ := h
    exact ⟨v, r ++ _, rfl, e2, RpL.app e3 h'⟩
theorem RpL.take : ∀ {xs : List PV} {vs : List V} (n : Nat), RpL K ι H xs vs → RpL K ι H (xs.take n) (vs.take n)
  | [], _, n, h => by have h : _ = [] := h; subst h; simp [RpL]
  | x :: xs, _, 0, h => by simp [RpL]
  | x :: xs, _, n + 1, h => by
    obtain ⟨v, r, rfl, e2, e3⟩ := h
    exact ⟨v, r.take n, rfl, e2, RpL.take n e3⟩
theorem RpL.drop : ∀ {xs : List PV} {vs : List V} (n : Nat), RpL K ι H xs vs → RpL K ι H (xs.drop n) (vs.drop n)
  | [], _, n, h => by have h : _ = [] := h; subst h; simp [RpL]
  | x :: xs, _, 0, h => h
  | x :: xs, _, n + 1, h => by
    obtain ⟨v, r, rfl, e2, e3⟩ := h
    exact RpL.drop n e3
theorem RpL.rev : ∀ {xs : List PV} {vs : List V}, RpL K ι H xs vs → RpL K ι H xs.reverse vs.reverse
  | [], _, h => by have h : _ = [] := h; subst h; rfl
  | x :: xs, _, h => by
    obtain ⟨v, r, rfl, e2, e3⟩ := h
    rw [List.reverse_cons, List.reverse_cons]
    exact (RpL.rev e3).app ⟨v, [], rfl, e2, rfl⟩
theorem RpL.set : ∀ {xs : List PV} {vs : List V} {x : PV} {v : V} (i : Nat), RpL K ι H xs vs → Rp K ι H x v → RpL K ι H (xs.set i x) (vs.set i v)
  | [], _, _, _, i, h, _ => by have h : _ = [] := h; subst h; rfl
  | y :: xs, _, x, v, 0, h, hx => by
    obtain ⟨w, r, rfl, e2, e3⟩ := h
    exact ⟨v, r, rfl, hx, e3⟩
  | y :: xs, _, x, v, i + 1, h, hx => by
    obtain ⟨w, r, rfl, e2, e3⟩ := h
    exact ⟨w, r.set i v, rfl, e2, RpL.set i e3 hx⟩
theorem RpL.one {x : PV} {v : V} (h : Rp K ι H x v) : RpL K ι H [x] [v] := ⟨v, [], rfl, h, rfl⟩
theorem RpL.ints : ∀ ns : List Int, RpL K ι H (ns.map PV.int) (ns.map V.int)
  | [] => rfl
  | n :: ns => ⟨.int n, ns.map V.int, rfl, rfl, RpL.ints ns⟩
theorem RpL.of_get : ∀ {xs : List PV} {vs : List V}, xs.length = vs.length → (∀ (i : Nat) x v, xs[i]? = some x → vs[i]? = some v → Rp K ι H x v) → RpL K ι H xs vs
  | [], [], _, _ => rfl
  | [], _ :: _, h, _ => by simp at h
  | _ :: _, [], h, _ => by simp at h
  | x :: xs, v :: vs, h, f => ⟨v, vs, rfl, f 0 x v rfl rfl, RpL.of_get (by simpa using h) fun i y w h1 h2 => f (i + 1) y w (by simpa using h1) (by simpa using h2)⟩
end

/-! ### the store and the heap -/
/-- fields by name -/
def RpF (K : PySem.W.Frag) (ι : List Addr) (H : Hp) {κ : Type} : List (κ × PV) → List (κ × V) → Prop
  | [], ws => ws = []
  | (k, x) :: r, ws => ∃ v w, ws = (k, v) :: w ∧ Rp K ι H x v ∧ RpF K ι H r w
section
variable {K : PySem.W.Frag} {ι ι' : List Addr} {H H' : Hp} {κ : Type}
theorem RpF.up : ∀ {fs : List (κ × PV)} {ws : List (κ × V)}, RpF K ι H fs ws → Ext ι H ι' H' → RpF K ι' H' fs ws
  | [], _, h, _ => h
  | (k, x) :: r, _, h, e => by
    obtain ⟨v, w, rfl, h1, h2⟩ := h
    exact ⟨v, w, rfl, h1.up e, RpF.up h2 e⟩
theorem RpF.length : ∀ {fs : List (κ × PV)} {ws : List (κ × V)}, RpF K ι H fs ws → fs.length = ws.length
  | [], _, h => by have h : _ = [] := h; subst h; rfl
  | (k, x) :: r, _, h => by
    obtain ⟨v, w, rfl, h1, h2⟩ := h
    simp [RpF.length h2]
theorem RpF.keys : ∀ {fs : List (κ × PV)} {ws : List (κ × V)}, RpF K ι H fs ws → fs.map (·.1) = ws.map (·.1)
  | [], _, h => by have h : _ = [] := h; subst h; rfl
  | (k, x) :: r, _, h => by
    obtain ⟨v, w, rfl, h1, h2⟩ := h
    simp [RpF.keys h2]
theorem RpF.lookup [BEq κ] : ∀ {fs : List (κ × PV)} {ws : List (κ × V)} {f : κ} {x : PV}, RpF K ι H fs ws → fs.lookup f = some x → ∃ v, ws.lookup f = some v ∧ Rp K ι H x v
  | [], _, _, _, _, e => by simp at e
  | (k, x) :: r, _, f, y, h, e => by
    obtain ⟨v, w, rfl, h1, h2⟩ := h
    rw [List.lookup_cons] at e ⊢
    split at e
    · rename_i q
      cases e
      exact ⟨v, by simp_all, h1⟩
    · rename_i q
      obtain ⟨v', h3, h4⟩ := RpF.lookup (f := f) h2 e
      exact ⟨v', by simp_all, h4⟩
theorem RpF.lookup_none [BEq κ] : ∀ {fs : List (κ × PV)} {ws : List (κ × V)} {f : κ}, RpF K ι H fs ws → fs.lookup f = none → ws.lookup f = none
  | [], _, _, h, _ => by have h : _ = [] := h; subst h; rfl
  | (k, x) :: r, _, f, h, e => by
    obtain ⟨v, w, rfl, h1, h2⟩ := h
    rw [List.lookup_cons] at e ⊢
    split at e
    · cases e
    · exact RpF.lookup_none h2 e
end

/-- an object o of the store, at a -/
def OR (K : PySem.W.Frag) (mg : Str → Option Value) (ι : List Addr) (H : Hp) (a : Addr) : Ob → Prop
  | .lst xs => ∃ vs, H a = some (.lst vs) ∧ RpL K ι H xs vs
  | .dct kvs => ∃ ws, H a = some (.dK ws) ∧ RpF K ι H kvs ws
  | .ins C fs => ∃ Ca dx ws, mg C = some (.ref Ca) ∧ H a = some (.ins Ca dx ws) ∧ RpF K ι H fs ws
structure RSt (K : PySem.W.Frag) (mg : Str → Option Value) (ι : List Addr) (H : Hp) (S : Sto) : Prop where
  len : ι.length = S.length
  nd : ι.Nodup
  obj : ∀ (l : Nat) (a : Addr) (o : Ob), ι[l]? = some a → S[l]? = some o → OR K mg ι H a o
section
variable {K : PySem.W.Frag} {mg : Str → Option Value} {ι ι' : List Addr} {H H' : Hp} {S S' : Sto} {a : Addr} {o : Ob} {l : Nat}
theorem OR.mut (h : OR K mg ι H a o) : Mut (H a) ∧ H a ≠ none ∧ (∀ xs, H a ≠ some (.tup xs)) ∧ ∀ o u, H a ≠ some (.frz o u) := by
  cases o with
  | lst xs => obtain ⟨vs, e, _⟩ := h; rw [e]; exact ⟨trivial, by simp, by simp, by simp⟩
  | dct kvs => obtain ⟨vs, e, _⟩ := h; rw [e]; exact ⟨trivial, by simp, by simp, by simp⟩
  | ins C fs => obtain ⟨Ca, dx, ws, _, e, _⟩ := h; rw [e]; exact ⟨trivial, by simp, by simp, by simp⟩
theorem RSt.get (r : RSt K mg ι H S) (h : S[l]? = some o) : ∃ a, ι[l]? = some a ∧ OR K mg ι H a o := by
  have hl : l < S.length := (List.getElem?_eq_some_iff.mp h).1
  have hι : l < ι.length := by rw [r.len]; exact hl
  exact ⟨ι[l], List.getElem?_eq_getElem hι, r.obj l _ o (List.getElem?_eq_getElem hι) h⟩
theorem RSt.mem (r : RSt K mg ι H S) (h : a ∈ ι) : ∃ (l : Nat) (o : Ob), ι[l]? = some a ∧ S[l]? = some o ∧ OR K mg ι H a o := by
  obtain ⟨l, hl, e⟩ := List.mem_iff_getElem.mp h
  have hS : l < S.length := by rw [← r.len]; exact hl
  exact ⟨l, S[l], by rw [List.getElem?_eq_getElem hl, e], List.getElem?_eq_getElem hS, r.obj l a _ (by rw [List.getElem?_eq_getElem hl, e]) (List.getElem?_eq_getElem hS)⟩
theorem OR.up_other (h : OR K mg ι H a o) (e : Ext ι H ι' H') (k : H' a = H a) : OR K mg ι' H' a o := by
  cases o with
  | lst xs => obtain ⟨vs, q, r⟩ := h; exact ⟨vs, k.trans q, r.up e⟩
  | dct xs => obtain ⟨vs, q, r⟩ := h; exact ⟨vs, k.trans q, r.up e⟩
  | ins C fs => obtain ⟨Ca, dx, ws, m, q, r⟩ := h; exact ⟨Ca, dx, ws, m, k.trans q, r.up e⟩
/-- an object of ours is written -/
theorem RSt.write (r : RSt K mg ι H S) {ho : HO} (hl : ι[l]? = some a) (ho' : OR K mg ι (upd H a ho) a o) : Ext ι H ι (upd H a ho) ∧ RSt K mg ι (upd H a ho) (S.set l o) := by
  have hm : a ∈ ι := List.mem_of_getElem? hl
  obtain ⟨l0, o0, h1, h2, h3⟩ := r.mem hm
  obtain ⟨_, _, nt, nf⟩ := h3.mut
  have ne : ∀ b, b ≠ a → upd H a ho b = H b := fun b hb => upd_ne hb
  have E : Ext ι H ι (upd H a ho) := ⟨fun _ _ h => h, fun b u h n => by rw [ne b (fun z => n (z ▸ hm))]; exact h, fun _ h => .inl h,
    fun b xs h => by rw [ne b (fun z => by subst z; exact nt xs h)]; exact h, fun b o u h => by rw [ne b (fun z => by subst z; exact nf o u h)]; exact h⟩
  refine ⟨E, by rw [List.length_set]; exact r.len, r.nd, fun l' a' o' e1 e2 => ?_⟩
  by_cases hll : l' = l
  · subst hll
    rw [hl] at e1; cases e1
    have hlt : l' < S.length := by
      have := (List.getElem?_eq_some_iff.mp hl).1
      rw [r.len] at this; exact this
    rw [List.getElem?_set_self hlt] at e2
    cases e2
    exact ho'
  · rw [List.getElem?_set_ne (Ne.symm hll)] at e2
    have hne : a' ≠ a := fun z => by
      subst z
      exact hll ((List.getElem?_inj (List.getElem?_eq_some_iff.mp e1).1 r.nd).mp (e1.trans hl.symm))
    exact (r.obj l' a' o' e1 e2).up_other E (ne a' hne)
theorem RSt.extw (r : RSt K mg ι H S) {ho : HO} (hl : ι[l]? = some a) : Ext ι H ι (upd H a ho) := by
  have hm : a ∈ ι := List.mem_of_getElem? hl
  obtain ⟨l0, o0, h1, h2, h3⟩ := r.mem hm
  obtain ⟨_, _, nt, nf⟩ := h3.mut
  have ne : ∀ b, b ≠ a → upd H a ho b = H b := fun b hb => upd_ne hb
  exact ⟨fun _ _ h => h, fun b u h n => by rw [ne b (fun z => n (z ▸ hm))]; exact h, fun _ h => .inl h,
    fun b xs h => by rw [ne b (fun z => by subst z; exact nt xs h)]; exact h, fun b o u h => by rw [ne b (fun z => by subst z; exact nf o u h)]; exact h⟩
theorem RSt.wlst (r : RSt K mg ι H S) {xs : List PV} {vs : List V} (hl : ι[l]? = some a) (h : RpL K ι H xs vs) : Ext ι H ι (upd H a (.lst vs)) ∧ RSt K mg ι (upd H a (.lst vs)) (S.set l (.lst xs)) :=
  r.write hl ⟨vs, upd_same, h.up (r.extw hl)⟩
theorem RSt.wdct (r : RSt K mg ι H S) {xs : List (Key × PV)} {vs : List (Key × V)} (hl : ι[l]? = some a) (h : RpF K ι H xs vs) : Ext ι H ι (upd H a (.dK vs)) ∧ RSt K mg ι (upd H a (.dK vs)) (S.set l (.dct xs)) :=
  r.write hl ⟨vs, upd_same, h.up (r.extw hl)⟩
theorem RSt.wins (r : RSt K mg ι H S) {C : Str} {Ca dx : Addr} {xs : List (Str × PV)} {vs : List (Str × V)} (hl : ι[l]? = some a) (hc : mg C = some (.ref Ca)) (h : RpF K ι H xs vs) : Ext ι H ι (upd H a (.ins Ca dx vs)) ∧ RSt K mg ι (upd H a (.ins Ca dx vs)) (S.set l (.ins C xs)) :=
  r.write hl ⟨Ca, dx, vs, hc, upd_same, h.up (r.extw hl)⟩
/-- a new object of ours -/
theorem RSt.alloc (r : RSt K mg ι H S) {p : Addr} (hp : H p = none) (hn : ∀ ι' H', Ext ι H ι' H' → H' p = H' p → True) {ho : HO} (E : Ext ι H (ι ++ [p]) (upd H p ho)) (ho' : OR K mg (ι ++ [p]) (upd H p ho) p o) : RSt K mg (ι ++ [p]) (upd H p ho) (S ++ [o]) := by
  have hnot : p ∉ ι := fun hm => by
    obtain ⟨l0, o0, h1, h2, h3⟩ := r.mem hm
    exact h3.mut.2.1 hp
  refine ⟨by simp [r.len], List.nodup_append.mpr ⟨r.nd, by simp, fun x hx y hy => by simp at hy; subst hy; exact fun z => hnot (z ▸ hx)⟩, fun l' a' o' e1 e2 => ?_⟩
  by_cases hl : l' < ι.length
  · rw [List.getElem?_append_left hl] at e1
    rw [List.getElem?_append_left (by rw [← r.len]; exact hl)] at e2
    exact (r.obj l' a' o' e1 e2).up_other E (upd_ne fun z => hnot (z ▸ List.mem_of_getElem? e1))
  · rw [List.getElem?_append_right (by omega)] at e1
    rw [List.getElem?_append_right (by rw [← r.len]; omega)] at e2
    have : l' - ι.length = 0 := by
      have := (List.getElem?_eq_some_iff.mp e1).1
      simp at this; omega
    have h2 : l' - S.length = 0 := by rw [← r.len]; exact this
    rw [this] at e1; rw [h2] at e2
    simp at e1 e2
    subst e1; subst e2
    exact ho'
theorem Ext.alloc {p : Addr} {ho : HO} (hp : H p = none) : Ext ι H (ι ++ [p]) (upd H p ho) where
  pre := fun l x h => by
    rw [List.getElem?_append_left (List.getElem?_eq_some_iff.mp h).1]; exact h
  fr := fun x u h _ => by rw [upd_ne (ne_of_none h hp)]; exact h
  new := fun x m => by
    rcases List.mem_append.mp m with q | q
    · exact .inl q
    · have : x = p := by simpa using q
      subst this; exact .inr hp
  tups := fun x u h => by rw [upd_ne (ne_of_none h hp)]; exact h
  frzs := fun x u z h => by rw [upd_ne (ne_of_none h hp)]; exact h
/-- something else is tracked -/
theorem Ext.other {p : Addr} {ho : HO} (hp : H p = none) : Ext ι H ι (upd H p ho) where
  pre := fun l x h => h
  fr := fun x u h _ => by rw [upd_ne (ne_of_none h hp)]; exact h
  new := fun x m => .inl m
  tups := fun x u h => by rw [upd_ne (ne_of_none h hp)]; exact h
  frzs := fun x u z h => by rw [upd_ne (ne_of_none h hp)]; exact h
theorem RSt.other (r : RSt K mg ι H S) (e : Ext ι H ι H') (k : ∀ a, a ∈ ι → H' a = H a) : RSt K mg ι H' S :=
  ⟨r.len, r.nd, fun l a o e1 e2 => (r.obj l a o e1 e2).up_other e (k a (List.mem_of_getElem? e1))⟩
theorem RSt.tup (r : RSt K mg ι H S) {p : Addr} {ho : HO} (hp : H p = none) : Ext ι H ι (upd H p ho) ∧ RSt K mg ι (upd H p ho) S := by
  refine ⟨.other hp, r.other (.other hp) fun a ha => upd_ne fun z => ?_⟩
  obtain ⟨l0, o0, h1, h2, h3⟩ := r.mem ha
  subst z
  exact h3.mut.2.1 hp
theorem RSt.new_lst (r : RSt K mg ι H S) {p : Addr} (hp : H p = none) {xs : List PV} {vs : List V} (h : RpL K ι H xs vs) : Ext ι H (ι ++ [p]) (upd H p (.lst vs)) ∧ RSt K mg (ι ++ [p]) (upd H p (.lst vs)) (S ++ [.lst xs]) ∧ Rp K (ι ++ [p]) (upd H p (.lst vs)) (.loc S.length) (.ref p) := by
  have E : Ext ι H (ι ++ [p]) (upd H p (.lst vs)) := .alloc hp
  exact ⟨E, r.alloc hp (fun _ _ _ _ => trivial) E ⟨vs, upd_same, h.up E⟩, p, rfl, by rw [← r.len]; simp⟩
end

/-! ### the slots -/
def REn (K : PySem.W.Frag) (ι : List Addr) (H : Hp) : En → L2.St → Prop
  | [], σ => σ = []
  | none :: τ, σ => ∃ r, σ = none :: r ∧ REn K ι H τ r
  | some x :: τ, σ => ∃ v r, σ = some v :: r ∧ Rp K ι H x v ∧ REn K ι H τ r
section
variable {K : PySem.W.Frag} {ι ι' : List Addr} {H H' : Hp}
theorem REn.up : ∀ {τ : En} {σ : L2.St}, REn K ι H τ σ → Ext ι H ι' H' → REn K ι' H' τ σ
  | [], _, h, _ => h
  | none :: τ, _, h, e => by
    obtain ⟨r, rfl, q⟩ := h
    exact ⟨r, rfl, q.up e⟩
  | some x :: τ, _, h, e => by
    obtain ⟨v, r, rfl, h1, q⟩ := h
    exact ⟨v, r, rfl, h1.up e, q.up e⟩
theorem REn.get : ∀ {τ : En} {σ : L2.St} {i : Nat} {x : PV}, REn K ι H τ σ → τ[i]? = some (some x) → ∃ v, σ[i]? = some (some v) ∧ Rp K ι H x v
  | [], _, _, _, _, e => by simp at e
  | none :: τ, _, 0, x, h, e => by simp at e
  | some y :: τ, _, 0, x, h, e => by
    obtain ⟨v, r, rfl, h1, q⟩ := h
    simp at e; subst e
    exact ⟨v, rfl, h1⟩
  | none :: τ, _, i + 1, x, h, e => by
    obtain ⟨r, rfl, q⟩ := h
    obtain ⟨v, h1, h2⟩ := REn.get (i := i) q (by simpa using e)
    exact ⟨v, by simpa using h1, h2⟩
  | some y :: τ, _, i + 1, x, h, e => by
    obtain ⟨v, r, rfl, h1, q⟩ := h
    obtain ⟨v, h1, h2⟩ := REn.get (i := i) q (by simpa using e)
    exact ⟨v, by simpa using h1, h2⟩
theorem REn.set : ∀ {τ : En} {σ : L2.St} {x : PV} {v : V} (i : Nat), REn K ι H τ σ → Rp K ι H x v → REn K ι H (τ.set i (some x)) (σ.set i (some v))
  | [], _, _, _, i, h, _ => by have h : _ = [] := h; subst h; rfl
  | none :: τ, _, x, v, 0, h, hx => by
    obtain ⟨r, rfl, q⟩ := h
    exact ⟨v, r, rfl, hx, q⟩
  | some y :: τ, _, x, v, 0, h, hx => by
    obtain ⟨w, r, rfl, h1, q⟩ := h
    exact ⟨v, r, rfl, hx, q⟩
  | none :: τ, _, x, v, i + 1, h, hx => by
    obtain ⟨r, rfl, q⟩ := h
    exact ⟨r.set i (some v), rfl, REn.set i q hx⟩
  | some y :: τ, _, x, v, i + 1, h, hx => by
    obtain ⟨w, r, rfl, h1, q⟩ := h
    exact ⟨w, r.set i (some v), rfl, h1, REn.set i q hx⟩
theorem REn.unset : ∀ {τ : En} {σ : L2.St} (i : Nat), REn K ι H τ σ → REn K ι H (τ.set i none) (σ.set i none)
  | [], _, i, h => by have h : _ = [] := h; subst h; rfl
  | none :: τ, _, 0, h => by
    obtain ⟨r, rfl, q⟩ := h
    exact ⟨r, rfl, q⟩
  | some y :: τ, _, 0, h => by
    obtain ⟨w, r, rfl, h1, q⟩ := h
    exact ⟨r, rfl, q⟩
  | none :: τ, _, i + 1, h => by
    obtain ⟨r, rfl, q⟩ := h
    exact ⟨r.set i none, rfl, REn.unset i q⟩
  | some y :: τ, _, i + 1, h => by
    obtain ⟨w, r, rfl, h1, q⟩ := h
    exact ⟨w, r.set i none, rfl, h1, REn.unset i q⟩
theorem REn.nones : ∀ n : Nat, REn K ι H (List.replicate n none) (List.replicate n none)
  | 0 => rfl
  | n + 1 => ⟨List.replicate n none, rfl, REn.nones n⟩
theorem REn.args : ∀ {ps : List PV} {vs : List V} {τ : En} {σ : L2.St}, RpL K ι H ps vs → REn K ι H τ σ → REn K ι H (ps.map some ++ τ) (vs.map some ++ σ)
  | [], _, _, _, h, q => by have h : _ = [] := h; subst h; exact q
  | p :: ps, _, _, _, h, q => by
    obtain ⟨v, r, rfl, h1, h2⟩ := h
    exact ⟨v, r.map some ++ _, rfl, h1, REn.args h2 q⟩
end
/-- what values lean on -/
structure ExtW (ι : List Addr) (H : Hp) (ι' : List Addr) (H' : Hp) : Prop where
  pre : ∀ (l : Nat) (a : Addr), ι[l]? = some a → ι'[l]? = some a
  tups : ∀ a xs, H a = some (.tup xs) → H' a = some (.tup xs)
  frzs : ∀ a o u, H a = some (.frz o u) → H' a = some (.frz o u)
theorem FzT.upW {K : PySem.W.Frag} {ι ι' : List Addr} {H H' : Hp} {a : Addr} {xs : List V} (h : FzT K H a xs) (e : ExtW ι H ι' H') : FzT K H' a xs := h.imp (fun ⟨o, h, hd⟩ => ⟨o, e.frzs a o _ h, hd⟩) id
theorem FzL.upW {K : PySem.W.Frag} {ι ι' : List Addr} {H H' : Hp} {a : Addr} {xs : List V} (h : FzL K H a xs) (e : ExtW ι H ι' H') : FzL K H' a xs := h.imp (fun ⟨o, h⟩ => ⟨o, e.frzs a o _ h⟩) id
theorem Ext.w {ι ι' : List Addr} {H H' : Hp} (e : Ext ι H ι' H') : ExtW ι H ι' H' := ⟨e.pre, e.tups, e.frzs⟩
theorem ExtW.refl {ι : List Addr} {H : Hp} : ExtW ι H ι H := ⟨fun _ _ h => h, fun _ _ h => h, fun _ _ _ h => h⟩
theorem ExtW.trans {ι ι1 ι2 : List Addr} {H H1 H2 : Hp} (a : ExtW ι H ι1 H1) (b : ExtW ι1 H1 ι2 H2) : ExtW ι H ι2 H2 :=
  ⟨fun l x h => b.pre l x (a.pre l x h), fun x xs h => b.tups x xs (a.tups x xs h), fun x o u h => b.frzs x o u (a.frzs x o u h)⟩
mutual
theorem Rp.upW {K : PySem.W.Frag} {ι ι' : List Addr} {H H' : Hp} (e : ExtW ι H ι' H') : ∀ (x : PV) (v : V), Rp K ι H x v → Rp K ι' H' x v
  | .non, _, h => h
  | .bl _, _, h => h
  | .int _, _, h => h
  | .str _, _, h => h
  | .tup xs, v, h => by
    obtain ⟨a, vs, e1, e2, e3⟩ := h
    exact ⟨a, vs, e1, e2.upW e, RpL.upW e xs vs e3⟩
  | .fls xs, v, h => by
    obtain ⟨a, vs, e1, e2, e3⟩ := h
    exact ⟨a, vs, e1, e2.upW e, RpL.upW e xs vs e3⟩
  | .loc l, v, h => by
    obtain ⟨a, e1, e2⟩ := h
    exact ⟨a, e1, e.pre l a e2⟩
theorem RpL.upW {K : PySem.W.Frag} {ι ι' : List Addr} {H H' : Hp} (e : ExtW ι H ι' H') : ∀ (xs : List PV) (vs : List V), RpL K ι H xs vs → RpL K ι' H' xs vs
  | [], _, h => h
  | x :: xs, vs, h => by
    obtain ⟨v, r, e1, e2, e3⟩ := h
    exact ⟨v, r, e1, Rp.upW e x v e2, RpL.upW e xs r e3⟩
end
theorem RpF.upW {K : PySem.W.Frag} {ι ι' : List Addr} {H H' : Hp} {κ : Type} (e : ExtW ι H ι' H') : ∀ {fs : List (κ × PV)} {ws : List (κ × V)}, RpF K ι H fs ws → RpF K ι' H' fs ws
  | [], _, h => h
  | (k, x) :: r, _, h => by
    obtain ⟨v, w, rfl, h1, h2⟩ := h
    exact ⟨v, w, rfl, Rp.upW e x v h1, RpF.upW e h2⟩
theorem REn.upW {K : PySem.W.Frag} {ι ι' : List Addr} {H H' : Hp} (e : ExtW ι H ι' H') : ∀ {τ : En} {σ : L2.St}, REn K ι H τ σ → REn K ι' H' τ σ
  | [], _, h => h
  | none :: τ, _, h => by
    obtain ⟨r, rfl, q⟩ := h
    exact ⟨r, rfl, REn.upW e q⟩
  | some x :: τ, _, h => by
    obtain ⟨v, r, rfl, h1, q⟩ := h
    exact ⟨v, r, rfl, Rp.upW e x v h1, REn.upW e q⟩
def startE (n : Nat) (ps : List PV) : En := ps.map some ++ List.replicate (n - ps.length) none
theorem REn.start {K : PySem.W.Frag} {ι : List Addr} {H : Hp} {N : List Str} {ps : List PV} {vs : List V} (h : RpL K ι H ps vs) : REn K ι H (startE N.length ps) (L2.start N vs) := by
  unfold startE L2.start
  rw [h.length]
  exact REn.args h (REn.nones _)
end PL
/-! PLB: the judgements over mirrors, expressions. -/
namespace PL
open PySem PySem.Spec PyProof.Rows L2

/-! ### packs -/
/-- what is wanted of an exception -/
def ErrOk (X : Cx) (W : WX) (σ : L2.St) (ι : List Addr) (H : Hp) (c : Str) (p : PV) (S' : Sto) : Prop :=
  ∀ (ι' : List Addr) (H' : Hp) (Ca d : Addr) (x : V), Ext ι H ι' H' → RSt X.K X.mg ι' H' S' → X.mg c = some (.ref Ca) → H' d = some (.xd [("what", x)]) → Rp X.K ι' H' p x → W (.ref Ca) (some d) σ H'
theorem ErrOk.up {X : Cx} {W : WX} {σ : L2.St} {ι ι1 : List Addr} {H H1 : Hp} {c : Str} {p : PV} {S' : Sto} (h : ErrOk X W σ ι H c p S') (e : Ext ι H ι1 H1) : ErrOk X W σ ι1 H1 c p S' :=
  fun ι' H' Ca d x e' r m hd q => h ι' H' Ca d x (e.trans e') r m hd q
abbrev RR (α β : Type) := List Addr → Hp → α → β → Prop
def Pk {α β : Type} (X : Cx) (W : WX) (R : RR α β) (σ : L2.St) (Q : β → Hp → Prop) (ι : List Addr) (H : Hp) (o : Out α) : Prop :=
  wp o (fun v S' => ∀ ι' H' x, Ext ι H ι' H' → RSt X.K X.mg ι' H' S' → R ι' H' v x → Q x H') (ErrOk X W σ ι H)
section
variable {α β γ δ : Type} {X : Cx} {W : WX} {R : RR α β} {R' : RR γ δ} {σ : L2.St} {Q Q' : β → Hp → Prop} {P : δ → Hp → Prop} {ι ι1 : List Addr} {H H1 : Hp} {o : Out α} {S S1 : Sto}
theorem Pk.mono (h : Pk X W R σ Q ι H o) (w : ∀ x H1, Q x H1 → Q' x H1) : Pk X W R σ Q' ι H o :=
  wp_mono h (fun v S' k ι' H' x e r q => w _ _ (k ι' H' x e r q)) fun _ _ _ k => k
theorem Pk.up (h : Pk X W R σ Q ι H o) (e : Ext ι H ι1 H1) : Pk X W R σ Q ι1 H1 o :=
  wp_mono h (fun v S' k ι' H' x e' r q => k ι' H' x (e.trans e') r q) fun _ _ _ k => k.up e
theorem Pk.next {f : α → Sto → Out γ} (h : Pk X W R' σ P ι H (bnd o f)) :
    Pk X W R σ (fun x H1 => ∃ a ι1 S1, Ext ι H ι1 H1 ∧ RSt X.K X.mg ι1 H1 S1 ∧ R ι1 H1 a x ∧ Pk X W R' σ P ι1 H1 (f a S1)) ι H o := by
  unfold Pk at h
  rw [wp_bnd] at h
  exact wp_mono h (fun a S k ι' H' x e r q => ⟨a, ι', S, e, r, q, Pk.up (o := f a S) k e⟩) fun _ _ _ k => k
end
def gE {α β : Type} (X : Cx) (W : WX) (R : RR α β) (m : EM α) : L2.St → Hp → (β → Hp → Prop) → Prop := fun σ H Q =>
  ∃ ι τ S, RSt X.K X.mg ι H S ∧ REn X.K ι H τ σ ∧ Pk X W R σ Q ι H (m τ S)
abbrev rV (X : Cx) : RR PV V := Rp X.K
abbrev rB : RR Bool Bool := fun _ _ v x => v = x
abbrev rL (X : Cx) : RR (List PV) (List V) := RpL X.K
structure RE (X : Cx) (W : WX) (e : Expr) (m : EM PV) : Prop where
  pe : PE X e (gE X W (rV X) m)
structure RT (X : Cx) (W : WX) (e : Expr) (m : EM Bool) : Prop where
  pt : PT X e (gE X W rB m)
structure RW (X : Cx) (W : WX) (e : Expr) (m : EM Bool) : Prop where
  pw : PW X e (gE X W rB m)
structure RA (X : Cx) (W : WX) (es : List Expr) (m : EM (List PV)) : Prop where
  pa : PA X es (gE X W (rL X) m)
theorem pe_weak {X : Cx} {e : Expr} {t t' : TE} (h : PE X e t) (w : ∀ σ H Q, t' σ H Q → t σ H Q) : PE X e t' := ⟨fun pins s σ H Q I hh => h.run pins s σ H Q I (w σ H Q hh)⟩
theorem pt_weak {X : Cx} {e : Expr} {t t' : TT} (h : PT X e t) (w : ∀ σ H Q, t' σ H Q → t σ H Q) : PT X e t' := ⟨fun pins s σ H Q I hh => h.run pins s σ H Q I (w σ H Q hh)⟩
theorem pw_weak {X : Cx} {e : Expr} {t t' : TT} (h : PW X e t) (w : ∀ σ H Q, t' σ H Q → t σ H Q) : PW X e t' := ⟨fun wh pins s σ H Q I hh => h.run wh pins s σ H Q I (w σ H Q hh)⟩
theorem pa_weak {X : Cx} {e : List Expr} {t t' : TA} (h : PA X e t) (w : ∀ σ H Q, t' σ H Q → t σ H Q) : PA X e t' := ⟨fun pos pins s σ H Q I hh => h.run pos pins s σ H Q I (w σ H Q hh)⟩

def lift {α : Type} : Option (α × Sto) → Out α
  | some (v, S) => .ok v S
  | none => .bad
@[simp] theorem lift_some {α : Type} (v : α) (S : Sto) : lift (some (v, S)) = .ok v S := rfl
@[simp] theorem lift_none {α : Type} : lift (none : Option (α × Sto)) = .bad := rfl
theorem pk_lift {α β : Type} {X : Cx} {W : WX} {R : RR α β} {σ : L2.St} {Q : β → Hp → Prop} {ι : List Addr} {H : Hp} {o : Option (α × Sto)} (h : Pk X W R σ Q ι H (lift o)) :
    ∃ v S', o = some (v, S') ∧ ∀ ι' H' x, Ext ι H ι' H' → RSt X.K X.mg ι' H' S' → R ι' H' v x → Q x H' := by
  cases o with
  | none => exact h.elim
  | some q => obtain ⟨v, S'⟩ := q; exact ⟨v, S', rfl, h⟩

/-! ### operators by values -/
abbrev Op2 := PV → PV → Sto → Option (PV × Sto)
def gOp (X : Cx) (f : Op2) : R2 := fun x y H Q => ∃ ι S p q v S', RSt X.K X.mg ι H S ∧ Rp X.K ι H p x ∧ Rp X.K ι H q y ∧ f p q S = some (v, S') ∧
  ∀ ι' H' z, Ext ι H ι' H' → RSt X.K X.mg ι' H' S' → Rp X.K ι' H' v z → Q z H'
def binM (f : Op2) (ma mb : EM PV) : EM PV := fun τ S => bnd (ma τ S) fun p S1 => bnd (mb τ S1) fun q S2 => lift (f p q S2)
section
variable {X : Cx} {W : WX} {a b c e : Expr} {ma mb mc : EM PV} {pos : Pos} {f f' : Op2}
theorem bin_read (σ : L2.St) (H : Hp) (Q : VK) (h : gE X W (rV X) (binM f ma mb) σ H Q) : tOp (gOp X f) (gE X W (rV X) ma) (gE X W (rV X) mb) σ H Q := by
  obtain ⟨ι, τ, S, r, ρ, pk⟩ := h
  refine ⟨ι, τ, S, r, ρ, pk.next.mono ?_⟩
  rintro x H1 ⟨p, ι1, S1, e1, r1, q1, pk1⟩
  refine ⟨ι1, τ, S1, r1, ρ.up e1, pk1.next.mono ?_⟩
  rintro y H2 ⟨q, ι2, S2, e2, r2, q2, pk2⟩
  obtain ⟨v, S', hf, k⟩ := pk_lift pk2
  exact ⟨ι2, S2, p, q, v, S', r2, q1.up e2, q2, hf, k⟩
theorem re_bin {op : Operator} (ho : OpR X (binaryOp op) (gOp X f)) (ha : RE X W a ma) (hb : RE X W b mb) : RE X W (.BinOp a op b pos) (binM f ma mb) :=
  ⟨pe_weak (pe_op ho ha.pe hb.pe) bin_read⟩
theorem re_cmp {op : CmpOp} (ho : OpR X (compareOp op) (gOp X f)) (ha : RE X W a ma) (hb : RE X W b mb) (hm : behindInMarks op b = false := by first | exact nomark _ | rfl) : RE X W (.Compare a [op] [b] pos) (binM f ma mb) :=
  ⟨pe_weak (pe_cmpR ho ha.pe hb.pe hm) bin_read⟩
/-- a value that is a truth -/
def blM (m : EM PV) : EM Bool := fun τ S => bnd (m τ S) fun v S1 => match v with | .bl b => .ok b S1 | _ => .bad
theorem bl_read {m : EM PV} (σ : L2.St) (H : Hp) (Q : Bool → Hp → Prop) (h : gE X W rB (blM m) σ H Q) : gE X W (rV X) m σ H (fun x H1 => ∃ k, x = .bl k ∧ Q k H1) := by
  obtain ⟨ι, τ, S, r, ρ, pk⟩ := h
  refine ⟨ι, τ, S, r, ρ, pk.next.mono ?_⟩
  rintro x H1 ⟨p, ι1, S1, e1, r1, q1, pk1⟩
  cases p with
  | bl k => exact ⟨k, q1, pk1 ι1 H1 k .refl r1 rfl⟩
  | _ => exact pk1.elim
theorem gE_mono {α β : Type} {R : RR α β} {m : EM α} {σ : L2.St} {H : Hp} {Q Q' : β → Hp → Prop} (h : gE X W R m σ H Q) (w : ∀ x H1, Q x H1 → Q' x H1) : gE X W R m σ H Q' := by
  obtain ⟨ι, τ, S, r, ρ, pk⟩ := h
  exact ⟨ι, τ, S, r, ρ, pk.mono w⟩
theorem rt_cmp {op : CmpOp} (ho : OpR X (compareOp op) (gOp X f)) (ha : RE X W a ma) (hb : RE X W b mb) (hm : behindInMarks op b = false := by first | exact nomark _ | rfl) : RT X W (.Compare a [op] [b] pos) (blM (binM f ma mb)) :=
  ⟨pt_weak (pt_cmpR ho ha.pe hb.pe hm) fun σ H Q h => bin_read σ H _ (bl_read σ H Q h)⟩
/-- a < b < c -/
def chainM (f f' : Op2) (ma mb mc : EM PV) : EM PV := fun τ S => bnd (ma τ S) fun p S1 => bnd (mb τ S1) fun q S2 => bnd (lift (f p q S2)) fun v S3 =>
  match v with | .bl true => bnd (mc τ S3) fun z S4 => lift (f' q z S4) | .bl false => .ok (.bl false) S3 | _ => .bad
def rtB {α : Type} (m : EM α) : EM α := m
theorem chain_read (σ : L2.St) (H : Hp) (Q : VK) (h : gE X W (rV X) (chainM f f' ma mb mc) σ H Q) : tChain (gOp X f) (gOp X f') (gE X W (rV X) ma) (gE X W (rV X) mb) (gE X W (rV X) mc) σ H Q := by
  obtain ⟨ι, τ, S, r, ρ, pk⟩ := h
  refine ⟨ι, τ, S, r, ρ, pk.next.mono ?_⟩
  rintro x H1 ⟨p, ι1, S1, e1, r1, q1, pk1⟩
  refine ⟨ι1, τ, S1, r1, ρ.up e1, pk1.next.mono ?_⟩
  rintro y H2 ⟨q, ι2, S2, e2, r2, q2, pk2⟩
  obtain ⟨v, S', hf, k⟩ := pk_lift (R := rV X) (Q := fun z H3 => ∃ a ι3 S3, Ext ι2 H2 ι3 H3 ∧ RSt X.K X.mg ι3 H3 S3 ∧ rV X ι3 H3 a z ∧ _) pk2.next
  refine ⟨ι2, S2, p, q, v, S', r2, q1.up e2, q2, hf, fun ι3 H3 z e3 r3 qz => ?_⟩
  obtain ⟨v3, ι4, S4, e4, r4, q4, pk4⟩ := k ι3 H3 z e3 r3 qz
  cases v3 with
  | bl k =>
    refine ⟨k, q4, ?_⟩
    cases k with
    | false => exact pk4 _ _ _ .refl r4 rfl
    | true =>
      rw [if_pos rfl]
      refine ⟨ι4, τ, S4, r4, ((ρ.up e1).up e2).up e4, pk4.next.mono ?_⟩
      rintro w H5 ⟨z5, ι5, S5, e5, r5, q5, pk5⟩
      obtain ⟨v6, S6, hf6, k6⟩ := pk_lift pk5
      exact ⟨ι5, S5, q, z5, v6, S6, r5, (q2.up e4).up e5, q5, hf6, k6⟩
  | _ => exact pk4.elim
theorem re_chain {op op' : CmpOp} (ho : OpR X (compareOp op) (gOp X f)) (ho' : OpR X (compareOp op') (gOp X f')) (ha : RE X W a ma) (hb : RE X W b mb) (hc : RE X W c mc) (hm : lastMarks [op, op'] [b, c] = false := by rfl)
    : RE X W (.Compare a [op, op'] [b, c] pos) (chainM f f' ma mb mc) :=
  ⟨pe_weak (pe_chain ho ho' ha.pe hb.pe hc.pe hm) chain_read⟩
theorem rt_chain {op op' : CmpOp} (ho : OpR X (compareOp op) (gOp X f)) (ho' : OpR X (compareOp op') (gOp X f')) (ha : RE X W a ma) (hb : RE X W b mb) (hc : RE X W c mc) (hm : lastMarks [op, op'] [b, c] = false := by rfl)
    : RT X W (.Compare a [op, op'] [b, c] pos) (blM (chainM f f' ma mb mc)) :=
  ⟨pt_weak (pt_chain ho ho' ha.pe hb.pe hc.pe hm) fun σ H Q h => chain_read σ H _ (bl_read σ H Q h)⟩
end
end PL
/-! PLC: expressions. -/
namespace PL
open PySem PySem.Spec PyProof.Rows L2
section
variable {X : Cx} {W : WX} {a b c e : Expr} {es rest : List Expr} {ma mb mc : EM PV} {tA tB' : EM Bool} {mas : EM (List PV)} {pos : Pos}
/-! ### names, constants -/
def vV (i : Nat) : EM PV := fun τ S => match τ[i]? with | some (some v) => .ok v S | _ => .bad
def cV (v : PV) : EM PV := fun _ S => .ok v S
@[simp] theorem cV_ap (v : PV) (τ : En) (S : Sto) : cV v τ S = .ok v S := rfl
theorem re_var (i : Nat) {x : Str} (hN : X.N[i]? = some x := by rfl) (hv : Vis X.env.scope x := by first | exact Or.inl rfl | exact Or.inr (Or.inl rfl) | exact Or.inr (Or.inr rfl)) (hd : (x == ("__debug__" : Str)) = false := by decide)
    (hcd : (x == ("__classdict__" : Str)) = false := by decide) : RE X W (.Name x pos) (vV i) := by
  refine ⟨pe_weak (pe_var hN hv hd hcd) fun σ H Q h => ?_⟩
  obtain ⟨ι, τ, S, r, ρ, pk⟩ := h
  cases hτ : τ[i]? with
  | none => simp only [vV, hτ] at pk; exact pk.elim
  | some o =>
    cases o with
    | none => simp only [vV, hτ] at pk; exact pk.elim
    | some v =>
      simp only [vV, hτ] at pk
      obtain ⟨x, h1, h2⟩ := ρ.get hτ
      exact ⟨x, h1, pk _ _ _ .refl r h2⟩
theorem re_cst {v : PV} {w : V} {e : Expr} (h : PE X e (tC w)) (r0 : ∀ ι H, Rp X.K ι H v w) : RE X W e (cV v) := by
  refine ⟨pe_weak h fun σ H Q h => ?_⟩
  obtain ⟨ι, τ, S, r, ρ, pk⟩ := h
  exact pk _ _ _ .refl r (r0 _ _)
theorem re_int {i j} : RE X W (.Constant (.int i) j pos) (cV (.int i)) := re_cst pe_int fun _ _ => rfl
theorem re_bl {i j} : RE X W (.Constant (.bool i) j pos) (cV (.bl i)) := re_cst pe_bl fun _ _ => rfl
theorem re_non {j} : RE X W (.Constant .none j pos) (cV .non) := re_cst pe_non fun _ _ => rfl
theorem re_str {i j} : RE X W (.Constant (.str i) j pos) (cV (.str i)) := re_cst pe_str fun _ _ => rfl
/-- a module's name whose value is flat -/
theorem re_glob {x : Str} {v : PV} {w : V} {u : Value} (hg : Gl X x) (hm : X.mg x = some u) (r : RelV w u) (r0 : ∀ ι H, Rp X.K ι H v w) (hd : (x == ("__debug__" : Str)) = false := by decide) : RE X W (.Name x pos) (cV v) := re_cst (pe_glob hg hm r hd) r0
/-! ### is None -/
def isNon : PV → Bool
  | .non => true
  | _ => false
def isNM (m : EM PV) : EM PV := fun τ S => bnd (m τ S) fun p S1 => .ok (.bl (isNon p)) S1
def notNM (m : EM PV) : EM PV := fun τ S => bnd (m τ S) fun p S1 => .ok (.bl (!isNon p)) S1
theorem rp_non {K : PySem.W.Frag} {ι : List Addr} {H : Hp} {p : PV} {x : V} (h : Rp K ι H p x) : decide (x = .non) = isNon p := by
  cases p with
  | non => have h : x = _ := h; subst h; rfl
  | bl b => have h : x = _ := h; subst h; rfl
  | int b => have h : x = _ := h; subst h; rfl
  | str b => have h : x = _ := h; subst h; rfl
  | tup xs => obtain ⟨_, _, rfl, _⟩ := h; rfl
  | fls xs => obtain ⟨_, _, rfl, _⟩ := h; rfl
  | loc l => obtain ⟨_, rfl, _⟩ := h; rfl
theorem isN_read (σ : L2.St) (H : Hp) (Q : VK) (h : gE X W (rV X) (isNM ma) σ H Q) : tIsN (gE X W (rV X) ma) σ H Q := by
  obtain ⟨ι, τ, S, r, ρ, pk⟩ := h
  refine ⟨ι, τ, S, r, ρ, pk.next.mono ?_⟩
  rintro x H1 ⟨p, ι1, S1, e1, r1, q1, pk1⟩
  exact pk1 _ _ _ .refl r1 (by rw [rp_non q1]; rfl)
theorem notN_read (σ : L2.St) (H : Hp) (Q : VK) (h : gE X W (rV X) (notNM ma) σ H Q) : tNotN (gE X W (rV X) ma) σ H Q := by
  obtain ⟨ι, τ, S, r, ρ, pk⟩ := h
  refine ⟨ι, τ, S, r, ρ, pk.next.mono ?_⟩
  rintro x H1 ⟨p, ι1, S1, e1, r1, q1, pk1⟩
  exact pk1 _ _ _ .refl r1 (by rw [rp_non q1]; rfl)
theorem re_isN {j pos'} (ha : RE X W a ma) : RE X W (.Compare a [.Is] [.Constant .none j pos'] pos) (isNM ma) := ⟨pe_weak (pe_cmp (pc_isN ha.pe)) isN_read⟩
theorem re_notN {j pos'} (ha : RE X W a ma) : RE X W (.Compare a [.IsNot] [.Constant .none j pos'] pos) (notNM ma) := ⟨pe_weak (pe_cmp (pc_notN ha.pe)) notN_read⟩
theorem rt_isN {j pos'} (ha : RE X W a ma) : RT X W (.Compare a [.Is] [.Constant .none j pos'] pos) (blM (isNM ma)) := ⟨pt_weak (pt_cmp (pc_isN ha.pe)) fun σ H Q h => isN_read σ H _ (bl_read σ H Q h)⟩
theorem rt_notN {j pos'} (ha : RE X W a ma) : RT X W (.Compare a [.IsNot] [.Constant .none j pos'] pos) (blM (notNM ma)) := ⟨pt_weak (pt_cmp (pc_notN ha.pe)) fun σ H Q h => notN_read σ H _ (bl_read σ H Q h)⟩
/-! ### truth -/
def truP (p : PV) (S : Sto) : Option Bool := match p with
  | .non => some false
  | .bl b => some b
  | .int i => some (i != 0)
  | .str x => if x.length ≤ 16777216 then some ((x.length : Int) != 0) else none
  | .tup xs => some (!xs.isEmpty)
  | .fls xs => some (!xs.isEmpty)
  | .loc l => match S[l]? with
    | some (.lst xs) => some (!xs.isEmpty)
    | some (.dct kvs) => some (!kvs.isEmpty)
    | _ => none
def truM (m : EM PV) : EM Bool := fun τ S => bnd (m τ S) fun p S1 => match truP p S1 with | some b => .ok b S1 | none => .bad
theorem RpL.isEmpty {K : PySem.W.Frag} {ι : List Addr} {H : Hp} {xs : List PV} {vs : List V} (h : RpL K ι H xs vs) : xs.isEmpty = vs.isEmpty := by
  have := h.length
  cases xs <;> cases vs <;> simp_all
theorem RpF.isEmpty {K : PySem.W.Frag} {ι : List Addr} {H : Hp} {κ : Type} {xs : List (κ × PV)} {vs : List (κ × V)} (h : RpF K ι H xs vs) : xs.isEmpty = vs.isEmpty := by
  have := h.length
  cases xs <;> cases vs <;> simp_all
theorem tru_ok' {ι : List Addr} {H : Hp} {S : Sto} {p : PV} {x : V} {b : Bool} (r : RSt X.K X.mg ι H S) (q : Rp X.K ι H p x) (h : truP p S = some b) : TruV X.K x H b := by
  cases p with
  | non => have q : x = _ := q; subst q; have h : some false = some b := h; cases h; exact rfl
  | bl k => have q : x = _ := q; subst q; have h : some k = some b := h; cases h; exact rfl
  | int i => have q : x = _ := q; subst q; have h : some (i != 0) = some b := h; cases h; exact rfl
  | str y =>
    have q : x = _ := q
    subst q
    unfold truP at h
    simp only at h
    split at h
    · rename_i hl
      cases h
      exact ⟨by rw [sizeLine_eq]; exact hl, rfl⟩
    · cases h
  | tup xs =>
    obtain ⟨a, vs, rfl, h1, h2⟩ := q
    have h : some (!xs.isEmpty) = some b := h
    cases h
    exact .inr (.inl ⟨vs, h1.seq, by rw [h2.isEmpty]⟩)
  | fls xs =>
    obtain ⟨a, vs, rfl, h1, h2⟩ := q
    have h : some (!xs.isEmpty) = some b := h
    cases h
    exact .inl ⟨vs, h1.seq, by rw [h2.isEmpty]⟩
  | loc l =>
    obtain ⟨a, rfl, h1⟩ := q
    unfold truP at h
    simp only at h
    cases hS : S[l]? with
    | none => rw [hS] at h; cases h
    | some o =>
      rw [hS] at h
      have ho := r.obj l a o h1 hS
      cases o with
      | lst xs =>
        cases h
        obtain ⟨vs, h3, h4⟩ := ho
        exact .inl ⟨vs, .of h3, by rw [h4.isEmpty]⟩
      | dct kvs =>
        cases h
        obtain ⟨vs, h3, h4⟩ := ho
        exact .inr (.inr ⟨vs, h3, by rw [h4.isEmpty]⟩)
      | ins C fs => cases h
theorem rt_tru (ha : RE X W a ma) (he : ∀ whole, isTrue a X.env whole = (do let v ← whole; standAt a.pos; holding [v] (truthy v)) := by intro _; rfl) : RT X W a (truM ma) := by
  refine ⟨pt_weak (pt_truth ha.pe he) fun σ H Q h => ?_⟩
  obtain ⟨ι, τ, S, r, ρ, pk⟩ := h
  refine ⟨ι, τ, S, r, ρ, pk.next.mono ?_⟩
  rintro x H1 ⟨p, ι1, S1, e1, r1, q1, pk1⟩
  cases ht : truP p S1 with
  | none => rw [ht] at pk1; exact pk1.elim
  | some k =>
    rw [ht] at pk1
    exact ⟨k, tru_ok' r1 q1 ht, pk1 _ _ _ .refl r1 rfl⟩
/-! ### and, or, not, if -/
def andM (s t : EM Bool) : EM Bool := fun τ S => bnd (s τ S) fun k S1 => if k = true then t τ S1 else .ok false S1
def orM (s t : EM Bool) : EM Bool := fun τ S => bnd (s τ S) fun k S1 => if k = true then .ok true S1 else t τ S1
def notM (s : EM Bool) : EM Bool := fun τ S => bnd (s τ S) fun k S1 => .ok (!k) S1
theorem rt_of (h : RW X W e tA) : RT X W e tA := ⟨h.pw.pt⟩
theorem rw_and1 (ha : RT X W a tA) : RW X W (.BoolOp .And [a] pos) tA := ⟨pw_and1 ha.pt⟩
theorem rw_or1 (ha : RT X W a tA) : RW X W (.BoolOp .Or [a] pos) tA := ⟨pw_or1 ha.pt⟩
theorem rw_and (ha : RT X W a tA) (hb : RW X W (.BoolOp .And (b :: rest) pos) tB') : RW X W (.BoolOp .And (a :: b :: rest) pos) (andM tA tB') := by
  refine ⟨pw_weak (pw_and ha.pt hb.pw) fun σ H Q h => ?_⟩
  obtain ⟨ι, τ, S, r, ρ, pk⟩ := h
  refine ⟨ι, τ, S, r, ρ, pk.next.mono ?_⟩
  rintro k H1 ⟨k', ι1, S1, e1, r1, q1, pk1⟩
  have q1 : k' = k := q1
  subst q1
  cases k' with
  | true => rw [if_pos rfl] at pk1 ⊢; exact ⟨ι1, τ, S1, r1, ρ.up e1, pk1⟩
  | false => exact pk1 _ _ _ .refl r1 rfl
theorem rw_or (ha : RT X W a tA) (hb : RW X W (.BoolOp .Or (b :: rest) pos) tB') : RW X W (.BoolOp .Or (a :: b :: rest) pos) (orM tA tB') := by
  refine ⟨pw_weak (pw_or ha.pt hb.pw) fun σ H Q h => ?_⟩
  obtain ⟨ι, τ, S, r, ρ, pk⟩ := h
  refine ⟨ι, τ, S, r, ρ, pk.next.mono ?_⟩
  rintro k H1 ⟨k', ι1, S1, e1, r1, q1, pk1⟩
  have q1 : k' = k := q1
  subst q1
  cases k' with
  | true => rw [if_pos rfl] at pk1 ⊢; exact pk1 _ _ _ .refl r1 rfl
  | false => exact ⟨ι1, τ, S1, r1, ρ.up e1, pk1⟩
theorem rt_not (ha : RT X W a tA) : RT X W (.UnaryOp .Not a pos) (notM tA) := by
  refine ⟨pt_weak (pt_not ha.pt) fun σ H Q h => ?_⟩
  obtain ⟨ι, τ, S, r, ρ, pk⟩ := h
  refine ⟨ι, τ, S, r, ρ, pk.next.mono ?_⟩
  rintro k H1 ⟨k', ι1, S1, e1, r1, q1, pk1⟩
  have q1 : k' = k := q1
  subst q1
  exact pk1 _ _ _ .refl r1 rfl
/-- as values: all but the last one truths -/
def andV (s t : EM PV) : EM PV := fun τ S => bnd (s τ S) fun v S1 => match v with | .bl true => t τ S1 | .bl false => .ok (.bl false) S1 | _ => .bad
def orV (s t : EM PV) : EM PV := fun τ S => bnd (s τ S) fun v S1 => match v with | .bl true => .ok (.bl true) S1 | .bl false => t τ S1 | _ => .bad
def notV (s : EM PV) : EM PV := fun τ S => bnd (s τ S) fun v S1 => match v with | .bl k => .ok (.bl (!k)) S1 | _ => .bad
theorem re_one {op} (h : RE X W a ma) : RE X W (.BoolOp op [a] pos) ma := ⟨pe_one h.pe⟩
theorem re_and (ha : RE X W a ma) (hb : RE X W (.BoolOp .And (b :: rest) pos) mb) : RE X W (.BoolOp .And (a :: b :: rest) pos) (andV ma mb) := by
  refine ⟨pe_weak (pe_and ha.pe hb.pe) fun σ H Q h => ?_⟩
  obtain ⟨ι, τ, S, r, ρ, pk⟩ := h
  refine ⟨ι, τ, S, r, ρ, pk.next.mono ?_⟩
  rintro x H1 ⟨p, ι1, S1, e1, r1, q1, pk1⟩
  cases p with
  | bl k =>
    refine ⟨k, q1, ?_⟩
    cases k with
    | true => exact ⟨ι1, τ, S1, r1, ρ.up e1, pk1⟩
    | false => exact pk1 _ _ _ .refl r1 rfl
  | _ => exact pk1.elim
theorem re_or (ha : RE X W a ma) (hb : RE X W (.BoolOp .Or (b :: rest) pos) mb) : RE X W (.BoolOp .Or (a :: b :: rest) pos) (orV ma mb) := by
  refine ⟨pe_weak (pe_or ha.pe hb.pe) fun σ H Q h => ?_⟩
  obtain ⟨ι, τ, S, r, ρ, pk⟩ := h
  refine ⟨ι, τ, S, r, ρ, pk.next.mono ?_⟩
  rintro x H1 ⟨p, ι1, S1, e1, r1, q1, pk1⟩
  cases p with
  | bl k =>
    refine ⟨k, q1, ?_⟩
    cases k with
    | false => exact ⟨ι1, τ, S1, r1, ρ.up e1, pk1⟩
    | true => exact pk1 _ _ _ .refl r1 rfl
  | _ => exact pk1.elim
theorem re_not (ha : RE X W a ma) : RE X W (.UnaryOp .Not a pos) (notV ma) := by
  refine ⟨pe_weak (pe_not ha.pe) fun σ H Q h => ?_⟩
  obtain ⟨ι, τ, S, r, ρ, pk⟩ := h
  refine ⟨ι, τ, S, r, ρ, pk.next.mono ?_⟩
  rintro x H1 ⟨p, ι1, S1, e1, r1, q1, pk1⟩
  cases p with
  | bl k => exact ⟨k, q1, pk1 _ _ _ .refl r1 rfl⟩
  | _ => exact pk1.elim
/-- x or y of any values -/
def orTM (s t : EM PV) : EM PV := fun τ S => bnd (s τ S) fun v S1 => match truP v S1 with | some true => .ok v S1 | some false => t τ S1 | none => .bad
theorem re_orT (ha : RE X W a ma) (hb : RE X W (.BoolOp .Or (b :: rest) pos) mb) : RE X W (.BoolOp .Or (a :: b :: rest) pos) (orTM ma mb) := by
  refine ⟨pe_weak (pe_orT ha.pe hb.pe) fun σ H Q h => ?_⟩
  obtain ⟨ι, τ, S, r, ρ, pk⟩ := h
  refine ⟨ι, τ, S, r, ρ, pk.next.mono ?_⟩
  rintro x H1 ⟨p, ι1, S1, e1, r1, q1, pk1⟩
  cases ht : truP p S1 with
  | none => rw [ht] at pk1; exact pk1.elim
  | some k =>
    rw [ht] at pk1
    refine ⟨k, tru_ok' r1 q1 ht, ?_⟩
    cases k with
    | true => exact pk1 _ _ _ .refl r1 q1
    | false => exact ⟨ι1, τ, S1, r1, ρ.up e1, pk1⟩
def ifM (c : EM Bool) (s t : EM PV) : EM PV := fun τ S => bnd (c τ S) fun k S1 => if k = true then s τ S1 else t τ S1
theorem re_if (hc : RT X W c tA) (ha : RE X W a ma) (hb : RE X W b mb) : RE X W (.IfExp c a b pos) (ifM tA ma mb) := by
  refine ⟨pe_weak (pe_ifExp hc.pt ha.pe hb.pe) fun σ H Q h => ?_⟩
  obtain ⟨ι, τ, S, r, ρ, pk⟩ := h
  refine ⟨ι, τ, S, r, ρ, pk.next.mono ?_⟩
  rintro k H1 ⟨k', ι1, S1, e1, r1, q1, pk1⟩
  have q1 : k' = k := q1
  subst q1
  cases k' with
  | true => exact ⟨ι1, τ, S1, r1, ρ.up e1, pk1⟩
  | false => exact ⟨ι1, τ, S1, r1, ρ.up e1, pk1⟩
/-! ### argument lists, displays -/
def aN : EM (List PV) := fun _ S => .ok [] S
def aC (m : EM PV) (ms : EM (List PV)) : EM (List PV) := fun τ S => bnd (m τ S) fun p S1 => bnd (ms τ S1) fun ps S2 => .ok (p :: ps) S2
theorem ra_nil : RA X W [] aN := by
  refine ⟨pa_weak pa_nil fun σ H Q h => ?_⟩
  obtain ⟨ι, τ, S, r, ρ, pk⟩ := h
  exact pk _ _ _ .refl r rfl
theorem ra_cons (ha : RE X W e ma) (hr : RA X W es mas) (hs : starEach (e :: es) X.env = (false, eval e X.env) :: starEach es X.env := by rfl) : RA X W (e :: es) (aC ma mas) := by
  refine ⟨pa_weak (pa_cons ha.pe hr.pa hs) fun σ H Q h => ?_⟩
  obtain ⟨ι, τ, S, r, ρ, pk⟩ := h
  refine ⟨ι, τ, S, r, ρ, pk.next.mono ?_⟩
  rintro x H1 ⟨p, ι1, S1, e1, r1, q1, pk1⟩
  refine ⟨ι1, τ, S1, r1, ρ.up e1, pk1.next.mono ?_⟩
  rintro xs H2 ⟨ps, ι2, S2, e2, r2, q2, pk2⟩
  exact pk2 _ _ _ .refl r2 ⟨x, xs, rfl, q1.up e2, q2⟩
def tupM (ms : EM (List PV)) : EM PV := fun τ S => bnd (ms τ S) fun ps S1 => if ps.length ≤ 16777216 then .ok (.tup ps) S1 else .bad
def lstM (ms : EM (List PV)) : EM PV := fun τ S => bnd (ms τ S) fun ps S1 => if ps.length ≤ 16777216 then .ok (.loc S1.length) (S1 ++ [.lst ps]) else .bad
theorem re_tup {x1} (h : RA X W es mas) : RE X W (.Tuple es x1 pos) (tupM mas) := by
  refine ⟨pe_weak (PLz.pe_tupZ h.pa) fun σ H Q h => ?_⟩
  obtain ⟨ι, τ, S, r, ρ, pk⟩ := h
  refine ⟨ι, τ, S, r, ρ, pk.next.mono ?_⟩
  rintro xs H1 ⟨ps, ι1, S1, e1, r1, q1, pk1⟩
  split at pk1
  · rename_i hl
    refine ⟨by rw [← q1.length, sizeLine_eq]; exact hl, fun p hp o ho => ?_⟩
    obtain ⟨E, r2⟩ := r1.tup (ho := .frz o (.tup xs)) hp
    exact pk1 _ _ _ E r2 ⟨p, xs, rfl, .inl ⟨o, upd_same, ho⟩, q1.up E⟩
  · exact pk1.elim
theorem re_lst (h : RA X W es mas) : RE X W (.List es pos) (lstM mas) := by
  refine ⟨pe_weak (pe_lst h.pa) fun σ H Q h => ?_⟩
  obtain ⟨ι, τ, S, r, ρ, pk⟩ := h
  refine ⟨ι, τ, S, r, ρ, pk.next.mono ?_⟩
  rintro xs H1 ⟨ps, ι1, S1, e1, r1, q1, pk1⟩
  split at pk1
  · rename_i hl
    refine ⟨by rw [← q1.length, sizeLine_eq]; exact hl, fun p hp => ?_⟩
    obtain ⟨E, r2, q2⟩ := r1.new_lst hp q1
    exact pk1 _ _ _ E r2 q2
  · exact pk1.elim
/-! ### subscripts -/
/-- the items of a list or tuple -/
def itemsP (p : PV) (S : Sto) : Option (List PV) := match p with
  | .tup xs => some xs
  | .fls xs => some xs
  | .loc l => match S[l]? with | some (.lst xs) => some xs | _ => none
  | _ => none
def keyP : PV → Option Key
  | .int i => some (.inl i)
  | .str x => some (.inr x)
  | _ => none
def getP : Op2 := fun p q S => match p, q with
  | .tup xs, .int i => (atI xs i).map fun v => (v, S)
  | .fls xs, .int i => (atI xs i).map fun v => (v, S)
  | .str x, .int i => if x.length ≤ 16777216 then (atI x.cps.toList i).map fun c => (.str ⟨#[c]⟩, S) else none
  | .loc l, q => match S[l]?, q with
    | some (.lst xs), .int i => (atI xs i).map fun v => (v, S)
    | _, _ => none
  | _, _ => none
theorem RpL.at {K : PySem.W.Frag} {ι : List Addr} {H : Hp} {xs : List PV} {vs : List V} {i : Int} {x : PV} (h : RpL K ι H xs vs) (e : atI xs i = some x) : ∃ v, atI vs i = some v ∧ Rp K ι H x v := by
  unfold atI at e ⊢
  rw [← h.length]
  cases q : ixN xs.length i with
  | none => rw [q] at e; cases e
  | some j =>
    rw [q] at e
    exact h.get (i := j) e
end
end PL
/-! PLD: operators, subscripts, slices. -/
namespace PL
open PySem PySem.Spec PyProof.Rows L2

/-! ### data -/
mutual
def toD : PV → Option PyData
  | .non => some .none
  | .bl b => some (.bool b)
  | .int i => some (.int i)
  | .str x => some (.str x)
  | .tup xs => (toDL xs).map .tuple
  | .fls xs => (toDL xs).map .list
  | .loc _ => none
def toDL : List PV → Option (List PyData)
  | [] => some []
  | x :: xs => (toD x).bind fun d => (toDL xs).map fun ds => d :: ds
end
def toDS (S : Sto) : PV → Option PyData
  | .loc l => match S[l]? with | some (.lst xs) => (toDL xs).map .list | _ => none
  | p => toD p
section
variable {K : PySem.W.Frag} {mg : Str → Option Value} {ι : List Addr} {H : Hp}
mutual
theorem toD_dp : ∀ (p : PV) (d : PyData) (v : V), toD p = some d → Rp K ι H p v → Dp K H v d
  | .non, d, v, h, r => by cases h; cases (show v = _ from r); exact .non
  | .bl b, d, v, h, r => by cases h; cases (show v = _ from r); exact .bl b
  | .int b, d, v, h, r => by cases h; cases (show v = _ from r); exact .int b
  | .str b, d, v, h, r => by cases h; cases (show v = _ from r); exact .str b
  | .tup xs, d, v, h, r => by
    obtain ⟨a, vs, rfl, h1, h2⟩ := r
    unfold toD at h
    cases q : toDL xs with
    | none => rw [q] at h; cases h
    | some ds =>
      rw [q] at h
      cases h
      exact .tup h1.seq (toDL_dp xs ds vs q h2)
  | .fls xs, d, v, h, r => by
    obtain ⟨a, vs, rfl, h1, h2⟩ := r
    unfold toD at h
    cases q : toDL xs with
    | none => rw [q] at h; cases h
    | some ds =>
      rw [q] at h
      cases h
      exact .lst h1.seq (toDL_dp xs ds vs q h2)
  | .loc _, d, v, h, r => by cases h
theorem toDL_dp : ∀ (xs : List PV) (ds : List PyData) (vs : List V), toDL xs = some ds → RpL K ι H xs vs → DpAll K H vs ds
  | [], ds, vs, h, r => by cases h; cases (show vs = _ from r); exact .nil
  | x :: xs, ds, vs, h, r => by
    obtain ⟨v, w, rfl, h1, h2⟩ := r
    unfold toDL at h
    cases q : toD x with
    | none => rw [q] at h; cases h
    | some d =>
      cases q2 : toDL xs with
      | none => rw [q, q2] at h; cases h
      | some es =>
        rw [q, q2] at h
        cases h
        exact .cons (toD_dp x d v q h1) (toDL_dp xs es w q2 h2)
end
theorem toDS_dp {S : Sto} (r0 : RSt K mg ι H S) : ∀ (p : PV) (d : PyData) (v : V), toDS S p = some d → Rp K ι H p v → Dp K H v d := by
  intro p d v h r
  cases p with
  | loc l =>
    obtain ⟨a, rfl, h1⟩ := r
    unfold toDS at h
    simp only at h
    cases hS : S[l]? with
    | none => rw [hS] at h; cases h
    | some o =>
      rw [hS] at h
      cases o with
      | lst xs =>
        obtain ⟨vs, h3, h4⟩ := r0.obj l a _ h1 hS
        cases q : toDL xs with
        | none => simp only [q] at h; cases h
        | some ds =>
          simp only [q] at h
          cases h
          exact .lst (.of h3) (toDL_dp xs ds vs q h4)
      | dct _ => cases h
      | ins _ _ => cases h
  | _ => exact toD_dp _ d v h r
end

/-! ### arithmetic -/
def intOp (f : Int → Int → Option PV) : Op2 := fun p q S => match p, q with
  | .int i, .int j => (f i j).map fun v => (v, S)
  | _, _ => none
section
variable {X : Cx}
theorem op_intOp {g : Value → Value → Sem Value} {f : Int → Int → Option PV} {r : R2} (ho : OpR X g r) (h : ∀ i j v H Q, f i j = some v → (∃ w, (∀ ι H', Rp X.K ι H' v w) ∧ (Q w H → r (.int i) (.int j) H Q))) : OpR X g (gOp X (intOp f)) := by
  intro pins s σ H x y v u Q I rx ry ⟨ι, S, p, q, z, S', rs, rp, rq, hf, k⟩
  unfold intOp at hf
  split at hf
  · rename_i i j
    cases hz : f i j with
    | none => rw [hz] at hf; cases hf
    | some w =>
      rw [hz] at hf
      cases hf
      cases (show x = _ from rp)
      cases (show y = _ from rq)
      obtain ⟨w', h1, h2⟩ := h i j _ H Q hz
      exact ho pins s σ H _ _ v u Q I rx ry (h2 (k ι H w' .refl rs (h1 _ _)))
  · cases hf
def subP : Op2 := intOp fun i j => some (.int (i - j))
def mulP : Op2 := fun p q S => match p, q with
  | .int i, .int j => if (-(2 ^ 64) < i ∧ i < 2 ^ 64) ∨ (-(2 ^ 64) < j ∧ j < 2 ^ 64) then some (.int (i * j), S) else none
  | .str x, .int n => if 0 ≤ n ∧ n ≤ 1000000 ∧ x.length ≤ 16777216 ∧ x.length * n.toNat ≤ 16777216 then some (.str (Txt.mul x n), S) else none
  | _, _ => none
theorem mulOk_of {x : Str} {n : Int} (h0 : 0 ≤ n) (h1 : n ≤ 1000000) (h2 : x.length ≤ 16777216) (h3 : x.length * n.toNat ≤ 16777216) : MulOk x n := by
  refine ⟨by simp; omega, fun hn _ => ?_, fun _ _ => ?_⟩
  · have : (16777216 : Int) ≤ (2 ^ 63 - 1) / n := by
      rw [Int.le_ediv_iff_mul_le (by omega)]
      omega
    omega
  · simp [Builtin.Str.tooLong, sizeLine_eq]; exact h3
def fdivP : Op2 := intOp fun i j => if 0 < j ∧ j.natAbs < 1267650600228229401496703205376 then some (.int (i / j)) else none
def modP : Op2 := intOp fun i j => if 0 < j then some (.int (i % j)) else none
def powP : Op2 := intOp fun i j => if 0 ≤ j ∧ j ≤ 1000000 ∧ i.natAbs < 2 ^ 64 then some (.int (i ^ j.toNat)) else none
theorem og_sub : OpR X (binaryOp .Sub) (gOp X subP) := op_intOp op_sub fun i j v H Q h => by cases h; exact ⟨_, fun _ _ => rfl, fun q => ⟨i, j, rfl, rfl, q⟩⟩
theorem og_mul : OpR X (binaryOp .Mult) (gOp X mulP) := by
  intro pins s σ H x y v u Q I rx ry ⟨ι, S, p, q, z, S', rs, rp, rq, hf, k⟩
  unfold mulP at hf
  split at hf
  · split at hf
    · rename_i c
      cases hf
      cases (show x = _ from rp)
      cases (show y = _ from rq)
      exact op_mul pins s σ H _ _ v u Q I rx ry ⟨_, _, rfl, rfl, c, k ι H _ .refl rs rfl⟩
    · cases hf
  · split at hf
    · rename_i x n c
      cases hf
      cases (show _ = _ from rp)
      cases (show y = _ from rq)
      obtain ⟨t, rfl⟩ := rx
      obtain ⟨t', rfl⟩ := ry
      exact SB.mul (mulOk_of c.1 c.2.1 c.2.2.1 c.2.2.2) fun t' tk => ⟨.str (Txt.mul x n), H, I.tok _, ⟨_, rfl⟩, k ι H _ .refl rs rfl⟩
    · cases hf
  · cases hf
theorem og_fdiv : OpR X (binaryOp .FloorDiv) (gOp X fdivP) := op_intOp op_fdivW fun i j v H Q h => by
  split at h
  · rename_i c
    cases h
    exact ⟨_, fun _ _ => rfl, fun q => ⟨i, j, rfl, rfl, wide_div (b := 100) c.1 c.2 (by decide) (by decide), q⟩⟩
  · cases h
theorem og_mod : OpR X (binaryOp .Mod) (gOp X modP) := op_intOp op_mod fun i j v H Q h => by
  split at h
  · rename_i c
    cases h
    exact ⟨_, fun _ _ => rfl, fun q => ⟨i, j, rfl, rfl, c, q⟩⟩
  · cases h
theorem og_pow : OpR X (binaryOp .Pow) (gOp X powP) := op_intOp op_pow fun i j v H Q h => by
  split at h
  · rename_i c
    cases h
    exact ⟨_, fun _ _ => rfl, fun q => ⟨i, j, rfl, rfl, c, q⟩⟩
  · cases h
/-- + of ints, texts, lists, tuples -/
def addP : Op2 := fun p q S => match p, q with
  | .int i, .int j => some (.int (i + j), S)
  | .str a, .str b => if a.length + b.length ≤ 16777216 then some (.str (a ++ b), S) else none
  | .tup a, .tup b => if a.length + b.length ≤ 16777216 then some (.tup (a ++ b), S) else none
  | .loc l, .loc k => match S[l]?, S[k]? with
    | some (.lst a), some (.lst b) => if a.length + b.length ≤ 16777216 then some (.loc S.length, S ++ [.lst (a ++ b)]) else none
    | _, _ => none
  | _, _ => none
theorem RpL.nil_iff {K : PySem.W.Frag} {ι : List Addr} {H : Hp} {xs : List PV} {vs : List V} (h : RpL K ι H xs vs) : vs = [] ↔ xs = [] := by
  have := h.length
  cases xs <;> cases vs <;> simp_all
theorem og_add : OpR X (binaryOp .Add) (gOp X addP) := by
  intro pins s σ H x y v u Q I rx ry ⟨ι, S, p, q, z, S', rs, rp, rq, hf, k⟩
  unfold addP at hf
  split at hf
  · cases hf
    cases (show x = _ from rp)
    cases (show y = _ from rq)
    exact op_add pins s σ H _ _ v u Q I rx ry ⟨_, _, rfl, rfl, k ι H _ .refl rs rfl⟩
  · split at hf
    · rename_i hl
      cases hf
      cases (show x = _ from rp)
      cases (show y = _ from rq)
      exact op_add_str pins s σ H _ _ v u Q I rx ry ⟨_, _, rfl, rfl, by rw [sizeLine_eq]; exact hl, k ι H _ .refl rs rfl⟩
    · cases hf
  · split at hf
    · rename_i a b hl
      cases hf
      obtain ⟨aa, vs, rfl, h1, h2⟩ := rp
      obtain ⟨bb, ws, rfl, h3, h4⟩ := rq
      refine PLz.op_catZ pins s σ H _ _ v u Q I rx ry ⟨aa, bb, vs, ws, rfl, rfl, h1.seq, h3.seq, by rw [← h2.length, ← h4.length, sizeLine_eq]; exact hl, fun e => ?_, fun _ e => ?_, fun _ _ p hp o ho => ?_⟩
      · have ea : a = [] := h2.nil_iff.mp e
        subst ea
        exact k ι H _ .refl rs ⟨bb, ws, rfl, h3, h4⟩
      · have ea : b = [] := h4.nil_iff.mp e
        subst ea
        exact k ι H _ .refl rs ⟨aa, vs, rfl, h1, by rw [List.append_nil]; exact h2⟩
      · obtain ⟨E, r2⟩ := rs.tup (ho := .frz o (.tup (vs ++ ws))) hp
        exact k _ _ _ E r2 ⟨p, _, rfl, .inl ⟨o, upd_same, ho⟩, (h2.app h4).up E⟩
    · cases hf
  · split at hf
    · rename_i a b e1 e2
      split at hf
      · rename_i hl
        cases hf
        obtain ⟨aa, rfl, h1⟩ := rp
        obtain ⟨bb, rfl, h2⟩ := rq
        obtain ⟨vs, h3, h4⟩ := rs.obj _ aa _ h1 e1
        obtain ⟨ws, h5, h6⟩ := rs.obj _ bb _ h2 e2
        refine op_cat pins s σ H _ _ v u Q I rx ry ⟨aa, bb, vs, ws, rfl, rfl, h3, h5, by rw [← h4.length, ← h6.length, sizeLine_eq]; exact hl, fun p hp => ?_⟩
        obtain ⟨E, r2, q2⟩ := rs.new_lst hp (h4.app h6)
        exact k _ _ _ E r2 q2
      · cases hf
    · cases hf
  · cases hf
/-! ### comparisons -/
def cmpI (f : Int → Int → Bool) : Op2 := intOp fun i j => some (.bl (f i j))
def ltP : Op2 := cmpI fun i j => decide (i < j)
def leP : Op2 := cmpI fun i j => decide (i ≤ j)
def gtP : Op2 := cmpI fun i j => decide (j < i)
def geP : Op2 := cmpI fun i j => decide (j ≤ i)
theorem og_lt : OpR X (compareOp .Lt) (gOp X ltP) := op_intOp op_lt fun i j v H Q h => by cases h; exact ⟨_, fun _ _ => rfl, fun q => ⟨i, j, rfl, rfl, q⟩⟩
theorem og_le : OpR X (compareOp .LtE) (gOp X leP) := op_intOp op_le fun i j v H Q h => by cases h; exact ⟨_, fun _ _ => rfl, fun q => ⟨i, j, rfl, rfl, q⟩⟩
theorem og_gt : OpR X (compareOp .Gt) (gOp X gtP) := op_intOp op_gt fun i j v H Q h => by cases h; exact ⟨_, fun _ _ => rfl, fun q => ⟨i, j, rfl, rfl, q⟩⟩
theorem og_ge : OpR X (compareOp .GtE) (gOp X geP) := op_intOp op_ge fun i j v H Q h => by cases h; exact ⟨_, fun _ _ => rfl, fun q => ⟨i, j, rfl, rfl, q⟩⟩
/-- == -/
def eqB (p q : PV) (S : Sto) : Option Bool := match p, q with
  | .int i, .int j => some (decide (i = j))
  | .str i, .str j => some (decide (i = j))
  | .bl i, .bl j => some (decide (i = j))
  | p, q => match toDS S p, toDS S q with
    | some d, some e => if SeqAt.shaped d = true ∧ SeqAt.shaped e = true then some (PyData.eqv d e) else none
    | _, _ => none
def eqP : Op2 := fun p q S => (eqB p q S).map fun b => (.bl b, S)
def neP : Op2 := fun p q S => (eqB p q S).map fun b => (.bl (!b), S)
theorem eqB_cases {p q : PV} {S : Sto} {b : Bool} (h : eqB p q S = some b) :
    (∃ i j, p = .int i ∧ q = .int j ∧ b = decide (i = j)) ∨ (∃ i j, p = .str i ∧ q = .str j ∧ b = decide (i = j)) ∨ (∃ i j, p = .bl i ∧ q = .bl j ∧ b = decide (i = j)) ∨
    ∃ d e, toDS S p = some d ∧ toDS S q = some e ∧ SeqAt.shaped d = true ∧ SeqAt.shaped e = true ∧ b = PyData.eqv d e := by
  unfold eqB at h
  split at h
  · cases h; exact .inl ⟨_, _, rfl, rfl, rfl⟩
  · cases h; exact .inr (.inl ⟨_, _, rfl, rfl, rfl⟩)
  · cases h; exact .inr (.inr (.inl ⟨_, _, rfl, rfl, rfl⟩))
  · split at h
    · rename_i d e h1 h2
      split at h
      · rename_i c
        cases h
        exact .inr (.inr (.inr ⟨d, e, h1, h2, c.1, c.2, rfl⟩))
      · cases h
    · cases h
theorem dec_i {i j : Int} : decide (V.int i = V.int j) = decide (i = j) := by by_cases h : i = j <;> simp [h]
theorem dec_s {i j : Str} : decide (V.str i = V.str j) = decide (i = j) := by by_cases h : i = j <;> simp [h]
theorem dec_b {i j : Bool} : decide (V.bl i = V.bl j) = decide (i = j) := by by_cases h : i = j <;> simp [h]
theorem og_eq (hu : X.A.units + 64 < cLine) : OpR X (compareOp .Eq) (gOp X eqP) := by
  intro pins s σ H x y v u Q I rx ry ⟨ι, S, p, q, z, S', rs, rp, rq, hf, k⟩
  unfold eqP at hf
  cases hb : eqB p q S with
  | none => rw [hb] at hf; cases hf
  | some b =>
    rw [hb] at hf
    cases hf
    have fin := k ι H (.bl b) .refl rs rfl
    rcases eqB_cases hb with ⟨i, j, rfl, rfl, rfl⟩ | ⟨i, j, rfl, rfl, rfl⟩ | ⟨i, j, rfl, rfl, rfl⟩ | ⟨d, e, h1, h2, h3, h4, rfl⟩
    · cases (show x = _ from rp); cases (show y = _ from rq)
      exact op_eq pins s σ H _ _ v u Q I rx ry ⟨rfl, by rw [dec_i]; exact fin⟩
    · cases (show x = _ from rp); cases (show y = _ from rq)
      exact op_eq pins s σ H _ _ v u Q I rx ry ⟨rfl, by rw [dec_s]; exact fin⟩
    · cases (show x = _ from rp); cases (show y = _ from rq)
      exact op_eq pins s σ H _ _ v u Q I rx ry ⟨rfl, by rw [dec_b]; exact fin⟩
    · exact op_eqD hu pins s σ H _ _ v u Q I rx ry ⟨d, e, toDS_dp rs p d x h1 rp, toDS_dp rs q e y h2 rq, h3, h4, fin⟩
theorem og_ne (hu : X.A.units + 64 < cLine) : OpR X (compareOp .NotEq) (gOp X neP) := by
  intro pins s σ H x y v u Q I rx ry ⟨ι, S, p, q, z, S', rs, rp, rq, hf, k⟩
  unfold neP at hf
  cases hb : eqB p q S with
  | none => rw [hb] at hf; cases hf
  | some b =>
    rw [hb] at hf
    cases hf
    have fin := k ι H (.bl (!b)) .refl rs rfl
    rcases eqB_cases hb with ⟨i, j, rfl, rfl, rfl⟩ | ⟨i, j, rfl, rfl, rfl⟩ | ⟨i, j, rfl, rfl, rfl⟩ | ⟨d, e, h1, h2, h3, h4, rfl⟩
    · cases (show x = _ from rp); cases (show y = _ from rq)
      exact op_ne pins s σ H _ _ v u Q I rx ry ⟨rfl, by rw [dec_i]; exact fin⟩
    · cases (show x = _ from rp); cases (show y = _ from rq)
      exact op_ne pins s σ H _ _ v u Q I rx ry ⟨rfl, by rw [dec_s]; exact fin⟩
    · cases (show x = _ from rp); cases (show y = _ from rq)
      exact op_ne pins s σ H _ _ v u Q I rx ry ⟨rfl, by rw [dec_b]; exact fin⟩
    · exact op_neD hu pins s σ H _ _ v u Q I rx ry ⟨d, e, toDS_dp rs p d x h1 rp, toDS_dp rs q e y h2 rq, h3, h4, fin⟩
/-! ### in -/
def valP (kvs : List (Key × PV)) (k : Key) : Option PV := (kvs.find? fun kv => decide (kv.1 = k)).map (·.2)
def putP (kvs : List (Key × PV)) (k : Key) (v : PV) : List (Key × PV) :=
  if (kvs.any fun kv => decide (kv.1 = k)) = true then kvs.map (fun kv => if kv.1 = k then (kv.1, v) else kv) else kvs ++ [(k, v)]
theorem RpF.val {K : PySem.W.Frag} {ι : List Addr} {H : Hp} {k : Key} : ∀ {kvs : List (Key × PV)} {ws : List (Key × V)}, RpF K ι H kvs ws → (∀ x, valP kvs k = some x → ∃ v, valV ws k = some v ∧ Rp K ι H x v) ∧ (valP kvs k = none → valV ws k = none)
  | [], _, h => by cases (show _ = _ from h); exact ⟨fun x e => (by cases e), fun _ => rfl⟩
  | (k0, x) :: r, _, h => by
    obtain ⟨v, w, rfl, h1, h2⟩ := h
    obtain ⟨i1, i2⟩ := RpF.val (k := k) h2
    unfold valP valV at *
    by_cases e : k0 = k
    · simp only [List.find?_cons, e, decide_true]
      exact ⟨fun y q => (by cases q; exact ⟨v, rfl, h1⟩), fun q => (by cases q)⟩
    · simp only [List.find?_cons, e, decide_false]
      exact ⟨i1, i2⟩
theorem RpF.any {K : PySem.W.Frag} {ι : List Addr} {H : Hp} {k : Key} : ∀ {kvs : List (Key × PV)} {ws : List (Key × V)}, RpF K ι H kvs ws → (kvs.any fun kv => decide (kv.1 = k)) = (ws.any fun kv => decide (kv.1 = k))
  | [], _, h => by cases (show _ = _ from h); rfl
  | (k0, x) :: r, _, h => by
    obtain ⟨v, w, rfl, h1, h2⟩ := h
    rw [List.any_cons, List.any_cons, RpF.any h2]
theorem RpF.app {K : PySem.W.Frag} {ι : List Addr} {H : Hp} {κ : Type} : ∀ {kvs kvs' : List (κ × PV)} {ws ws' : List (κ × V)}, RpF K ι H kvs ws → RpF K ι H kvs' ws' → RpF K ι H (kvs ++ kvs') (ws ++ ws')
  | [], _, _, _, h, h' => by cases (show _ = _ from h); exact h'
  | (k0, x) :: r, _, _, _, h, h' => by
    obtain ⟨v, w, rfl, h1, h2⟩ := h
    exact ⟨v, _, rfl, h1, RpF.app h2 h'⟩
theorem RpF.mapPut {K : PySem.W.Frag} {ι : List Addr} {H : Hp} {k : Key} {y : PV} {z : V} (hy : Rp K ι H y z) : ∀ {kvs : List (Key × PV)} {ws : List (Key × V)}, RpF K ι H kvs ws →
    RpF K ι H (kvs.map (fun kv => if kv.1 = k then (kv.1, y) else kv)) (ws.map (fun kv => if kv.1 = k then (kv.1, z) else kv))
  | [], _, h => by cases (show _ = _ from h); rfl
  | (k0, x) :: r, _, h => by
    obtain ⟨v, w, rfl, h1, h2⟩ := h
    rw [List.map_cons, List.map_cons]
    by_cases e : k0 = k
    · simp only [e, if_true]; exact ⟨z, _, rfl, hy, RpF.mapPut hy h2⟩
    · simp only [e, if_false]; exact ⟨v, _, rfl, h1, RpF.mapPut hy h2⟩
theorem RpF.put {K : PySem.W.Frag} {ι : List Addr} {H : Hp} {k : Key} {y : PV} {z : V} {kvs : List (Key × PV)} {ws : List (Key × V)} (h : RpF K ι H kvs ws) (hy : Rp K ι H y z) : RpF K ι H (putP kvs k y) (putK ws k z) := by
  unfold putP putK
  rw [h.any]
  split
  · exact h.mapPut hy
  · exact h.app ⟨z, [], rfl, hy, rfl⟩
def flatP : PV → Bool
  | .non => true
  | .bl _ => true
  | .int _ => true
  | .str _ => true
  | _ => false
def flatW : PV → V
  | .non => .non
  | .bl b => .bl b
  | .int i => .int i
  | .str x => .str x
  | _ => .non
theorem rp_flat {K : PySem.W.Frag} {ι : List Addr} {H : Hp} {p : PV} {x : V} (h : Rp K ι H p x) (f : flatP p = true) : x = flatW p ∧ flatV x = true := by
  cases p with
  | non => cases (show x = _ from h); exact ⟨rfl, rfl⟩
  | bl b => cases (show x = _ from h); exact ⟨rfl, rfl⟩
  | int b => cases (show x = _ from h); exact ⟨rfl, rfl⟩
  | str b => cases (show x = _ from h); exact ⟨rfl, rfl⟩
  | _ => cases f
theorem rpl_flat {K : PySem.W.Frag} {ι : List Addr} {H : Hp} : ∀ {xs : List PV} {vs : List V}, RpL K ι H xs vs → xs.all flatP = true → vs = xs.map flatW ∧ vs.all flatV = true
  | [], _, h, _ => by cases (show _ = _ from h); exact ⟨rfl, rfl⟩
  | x :: xs, _, h, f => by
    obtain ⟨v, r, rfl, h1, h2⟩ := h
    rw [List.all_cons, Bool.and_eq_true] at f
    obtain ⟨e1, e2⟩ := rp_flat h1 f.1
    obtain ⟨e3, e4⟩ := rpl_flat h2 f.2
    exact ⟨by rw [List.map_cons, ← e1, ← e3], by rw [List.all_cons, e2, e4]; rfl⟩
/-- in, of items -/
def inItems (p : PV) (xs : List PV) : Option Bool :=
  if flatP p = true ∧ xs.all flatP = true then some (inV (flatW p) (xs.map flatW)) else none
def inDeep (p : PV) (xs : List PV) : Option Bool := match toD p, toDL xs with
  | some d, some ds => if SeqAt.shaped d = true ∧ SeqAt.shaped (.list ds) = true then some (ds.any fun z => PyData.eqv z d) else none
  | _, _ => none
def inB (p q : PV) (S : Sto) : Option Bool := match q with
  | .str z => match p with
    | .str ⟨⟨[c]⟩⟩ => some (decide (c ∈ z.cps.toList))
    | .str x => some (!(Builtin.Str.occurrences z x 0 z.length 1).isEmpty)
    | _ => none
  | .tup xs => inItems p xs
  | .fls xs => inItems p xs
  | .loc l => match S[l]? with
    | some (.lst xs) => match inItems p xs with
      | some b => some b
      | none => inDeep p xs
    | some (.dct kvs) => match keyP p with
      | some k => some (valP kvs k).isSome
      | none => none
    | _ => none
  | _ => none
def inP : Op2 := fun p q S => (inB p q S).map fun b => (.bl b, S)
def notInP : Op2 := fun p q S => (inB p q S).map fun b => (.bl (!b), S)
theorem key_rp {K : PySem.W.Frag} {ι : List Addr} {H : Hp} {p : PV} {x : V} {k : Key} (h : Rp K ι H p x) (e : keyP p = some k) : x = kV k := by
  cases p with
  | int i => cases (show x = _ from h); cases e; rfl
  | str i => cases (show x = _ from h); cases e; rfl
  | _ => cases e
theorem og_inB (hu : X.A.units + 65 < cLine) {p q : PV} {S : Sto} {b : Bool} {ι : List Addr} {H : Hp} {x y : V} (rs : RSt X.K X.mg ι H S) (rp : Rp X.K ι H p x) (rq : Rp X.K ι H q y) (h : inB p q S = some b) (neg : Bool)
    (pins : List (Addr × Obj)) (s : Shared) (σ : L2.St) (v u : Value) (Q : VK) (I : Inv X pins σ H s) (rx : RelV x v) (ry : RelV y u) (fin : Q (.bl (if neg then !b else b)) H) :
    wpAny (model X.prog X.w) X.A (compareOp (if neg then .NotIn else .In) v u) (EP X pins σ Q) X.xe s := by
  have items : ∀ (xs : List PV) (vs : List V) (a : Addr), y = .ref a → (SqL X.K H a vs ∨ SqT X.K H a vs) → RpL X.K ι H xs vs → inItems p xs = some b →
      wpAny (model X.prog X.w) X.A (compareOp (if neg then .NotIn else .In) v u) (EP X pins σ Q) X.xe s := by
    intro xs vs a ey hq hr hi
    subst ey
    unfold inItems at hi
    split at hi
    · rename_i c
      cases hi
      obtain ⟨e1, e2⟩ := rp_flat rp c.1
      obtain ⟨e3, e4⟩ := rpl_flat hr c.2
      subst e1; subst e3
      cases neg
      · exact op_in_seq pins s σ H _ _ v u Q I rx ry ⟨a, _, rfl, hq, e2, e4, fin⟩
      · exact op_notIn_seq pins s σ H _ _ v u Q I rx ry ⟨a, _, rfl, hq, e2, e4, fin⟩
    · cases hi
  unfold inB at h
  split at h
  · cases (show y = _ from rq)
    split at h
    · cases h
      cases (show x = _ from rp)
      cases neg
      · exact op_in_sign pins s σ H _ _ v u Q I rx ry ⟨_, _, rfl, rfl, fin⟩
      · exact op_notIn_sign pins s σ H _ _ v u Q I rx ry ⟨_, _, rfl, rfl, fin⟩
    · cases h
      cases (show x = _ from rp)
      cases neg
      · exact op_in_str pins s σ H _ _ v u Q I rx ry ⟨_, _, rfl, rfl, fin⟩
      · exact op_notin_str pins s σ H _ _ v u Q I rx ry ⟨_, _, rfl, rfl, fin⟩
    · cases h
  · obtain ⟨a, vs, ey, h1, h2⟩ := rq
    exact items _ vs a ey (.inr h1.seq) h2 h
  · obtain ⟨a, vs, ey, h1, h2⟩ := rq
    exact items _ vs a ey (.inl h1.seq) h2 h
  · obtain ⟨a, ey, h1⟩ := rq
    split at h
    · rename_i xs eS
      obtain ⟨vs, h3, h4⟩ := rs.obj _ a _ h1 eS
      split at h
      · rename_i b' hb'
        cases h
        exact items _ vs a ey (.inl (.of h3)) h4 hb'
      · unfold inDeep at h
        split at h
        · rename_i d ds e1 e2
          split at h
          · rename_i c
            cases h
            subst ey
            have dx := toD_dp p d x e1 rp
            have dy : Dp X.K H (.ref a) (.list ds) := .lst (.of h3) (toDL_dp xs ds vs e2 h4)
            cases neg
            · exact op_inD hu pins s σ H _ _ v u Q I rx ry ⟨d, ds, dx, dy, c.1, c.2, fin⟩
            · exact op_notInD hu pins s σ H _ _ v u Q I rx ry ⟨d, ds, dx, dy, c.1, c.2, fin⟩
          · cases h
        · cases h
    · rename_i kvs eS
      obtain ⟨ws, h3, h4⟩ := rs.obj _ a _ h1 eS
      split at h
      · rename_i k hk
        cases h
        subst ey
        cases key_rp rp hk
        obtain rfl : u = Value.ref a := ry
        have e : (valP kvs k).isSome = (valV ws k).isSome := by
          obtain ⟨i1, i2⟩ := RpF.val (k := k) h4
          cases q : valP kvs k with
          | none => rw [i2 q]; rfl
          | some x => obtain ⟨v, e, _⟩ := i1 x q; rw [e]; rfl
        rw [e] at fin
        cases neg
        · exact d_in (by omega) I (DGet.k h3) rx fun s' I' => ⟨.bl _, H, I', rfl, fin⟩
        · exact d_notIn (by omega) I (DGet.k h3) rx fun s' I' => ⟨.bl _, H, I', rfl, fin⟩
      · cases h
    · cases h
  · cases h
theorem og_in (hu : X.A.units + 65 < cLine) : OpR X (compareOp .In) (gOp X inP) := by
  intro pins s σ H x y v u Q I rx ry ⟨ι, S, p, q, z, S', rs, rp, rq, hf, k⟩
  unfold inP at hf
  cases hb : inB p q S with
  | none => rw [hb] at hf; cases hf
  | some b =>
    rw [hb] at hf
    cases hf
    exact og_inB hu rs rp rq hb false pins s σ v u Q I rx ry (k ι H (.bl b) .refl rs rfl)
theorem og_notIn (hu : X.A.units + 65 < cLine) : OpR X (compareOp .NotIn) (gOp X notInP) := by
  intro pins s σ H x y v u Q I rx ry ⟨ι, S, p, q, z, S', rs, rp, rq, hf, k⟩
  unfold notInP at hf
  cases hb : inB p q S with
  | none => rw [hb] at hf; cases hf
  | some b =>
    rw [hb] at hf
    cases hf
    exact og_inB hu rs rp rq hb true pins s σ v u Q I rx ry (k ι H (.bl (!b)) .refl rs rfl)
/-! ### subscripts -/
theorem og_ix : IxR X (gOp X getP) := by
  intro value slice pins s σ H x y v u Q I rx ry ⟨ι, S, p, q, z, S', rs, rp, rq, hf, k⟩ hs
  unfold getP at hf
  split at hf
  · rename_i xs i
    cases ha : atI xs i with
    | none => rw [ha] at hf; cases hf
    | some w =>
      rw [ha] at hf
      cases hf
      obtain ⟨a, vs, rfl, h1, h2⟩ := rp
      cases (show y = _ from rq)
      obtain ⟨w', h3, h4⟩ := h2.at ha
      exact ix_tup value slice pins s σ H _ _ v u Q I rx ry ⟨a, vs, i, w', rfl, rfl, h1.seq, h3, k ι H _ .refl rs h4⟩ hs
  · rename_i xs i
    cases ha : atI xs i with
    | none => rw [ha] at hf; cases hf
    | some w =>
      rw [ha] at hf
      cases hf
      obtain ⟨a, vs, rfl, h1, h2⟩ := rp
      cases (show y = _ from rq)
      obtain ⟨w', h3, h4⟩ := h2.at ha
      exact ix_list value slice pins s σ H _ _ v u Q I rx ry ⟨a, vs, i, w', rfl, rfl, h1.seq, h3, k ι H _ .refl rs h4⟩ hs
  · rename_i xs i
    split at hf
    · rename_i hl
      cases ha : atI xs.cps.toList i with
      | none => rw [ha] at hf; cases hf
      | some w =>
        rw [ha] at hf
        cases hf
        cases (show x = _ from rp)
        cases (show y = _ from rq)
        exact ix_str value slice pins s σ H _ _ v u Q I rx ry ⟨xs, i, w, rfl, rfl, by rw [sizeLine_eq]; exact hl, ha, k ι H _ .refl rs rfl⟩ hs
    · cases hf
  · split at hf
    · rename_i xs i eS
      cases ha : atI xs i with
      | none => rw [ha] at hf; cases hf
      | some w =>
        rw [ha] at hf
        cases hf
        obtain ⟨a, rfl, h1⟩ := rp
        cases (show y = _ from rq)
        obtain ⟨vs, h2, h3⟩ := rs.obj _ a _ h1 eS
        obtain ⟨w', h4, h5⟩ := h3.at ha
        exact ix_list value slice pins s σ H _ _ v u Q I rx ry ⟨a, vs, i, w', rfl, rfl, .of h2, h4, k ι H _ .refl rs h5⟩ hs
    · cases hf
  · cases hf
theorem re_ix {W : WX} {a b : Expr} {ma mb : EM PV} {pos : Pos} (ha : RE X W a ma) (hb : RE X W b mb) (hs : PlainIx b := by exact fun _ _ => rfl) : RE X W (.Subscript a b pos) (binM getP ma mb) :=
  ⟨pe_weak (pe_ix og_ix ha.pe hb.pe hs) bin_read⟩
/-- d[k] of a dict -/
def dgetP : Op2 := fun p q S => match p with
  | .loc l => match S[l]?, keyP q with
    | some (.dct kvs), some k => (valP kvs k).map fun v => (v, S)
    | _, _ => none
  | _ => none
theorem re_dget {W : WX} {a b : Expr} {ma mb : EM PV} {pos : Pos} (hu : X.A.units + 1 < cLine) (ha : RE X W a ma) (hb : RE X W b mb) (hs : NoSl b := by exact fun _ _ => rfl) : RE X W (.Subscript a b pos) (binM dgetP ma mb) := by
  refine ⟨pe_weak (pe_dget hu ha.pe hb.pe hs) fun σ H Q h => gE_mono (bin_read σ H Q h) fun x H1 h1 => gE_mono h1 fun y H2 h2 => ?_⟩
  obtain ⟨ι, S, p, q, z, S', rs, rp, rq, hf, k⟩ := h2
  unfold dgetP at hf
  split at hf
  · split at hf
    · rename_i kvs kk eS ek
      cases hv : valP kvs kk with
      | none => rw [hv] at hf; cases hf
      | some w =>
        rw [hv] at hf
        cases hf
        obtain ⟨a, rfl, hι⟩ := rp
        obtain ⟨ws, h3, h4⟩ := rs.obj _ a _ hι eS
        cases key_rp rq ek
        obtain ⟨v, e1, e2⟩ := (RpF.val (k := kk) h4).1 _ hv
        exact ⟨a, v, rfl, by rw [← e1]; exact DGet.k h3, k ι H2 v .refl rs e2⟩
    · cases hf
  · cases hf
end
end PL
/-! PLE: slices, built-in calls, methods of built-in types, calls of defs. -/
namespace PL
open PySem PySem.Spec PyProof.Rows L2
section
variable {X : Cx} {W : WX} {a b c e o : Expr} {es rest : List Expr} {ma mb mc mo : EM PV} {tA tB' : EM Bool} {mas : EM (List PV)} {pos apos cpos p2 : Pos}
/-! ### slices -/
abbrev rO : RR (Option Int) (Option Int) := fun _ _ v x => v = x
structure RO (X : Cx) (W : WX) (e : Option Expr) (m : EM (Option Int)) : Prop where
  po : L2.PO X e (gE X W rO m)
theorem po_weak {X : Cx} {e : Option Expr} {t t' : TO} (h : L2.PO X e t) (w : ∀ σ H Q, t' σ H Q → t σ H Q) : L2.PO X e t' := ⟨fun pins s σ H Q I hh => h.run pins s σ H Q I (w σ H Q hh)⟩
def oN : EM (Option Int) := fun _ S => .ok none S
def oS (m : EM PV) : EM (Option Int) := fun τ S => bnd (m τ S) fun p S1 => match p with | .int i => .ok (some i) S1 | _ => .bad
theorem ro_none : RO X W none oN := ⟨po_weak po_none fun σ H Q h => by
  obtain ⟨ι, τ, S, r, ρ, pk⟩ := h
  exact pk _ _ _ .refl r rfl⟩
theorem ro_some (h : RE X W e ma) : RO X W (some e) (oS ma) := ⟨po_weak (po_some h.pe) fun σ H Q h => by
  obtain ⟨ι, τ, S, r, ρ, pk⟩ := h
  refine ⟨ι, τ, S, r, ρ, pk.next.mono ?_⟩
  rintro x H1 ⟨p, ι1, S1, e1, r1, q1, pk1⟩
  cases p with
  | int i => exact ⟨i, q1, pk1 _ _ _ .refl r1 rfl⟩
  | _ => exact pk1.elim⟩
def cutP (xs : List PV) (lo hi : Option Int) : List PV := (xs.drop (HT.sIx xs.length 0 lo)).take (HT.sIx xs.length xs.length hi - HT.sIx xs.length 0 lo)
theorem RpL.cut {K : PySem.W.Frag} {ι : List Addr} {H : Hp} {xs : List PV} {vs : List V} (h : RpL K ι H xs vs) (lo hi : Option Int) : RpL K ι H (cutP xs lo hi) (cutV vs lo hi) := by
  unfold cutP cutV
  rw [h.length]
  exact (h.drop _).take _
def slP (p : PV) (lo hi : Option Int) (S : Sto) : Option (PV × Sto) := match p with
  | .tup xs => some (.tup (cutP xs lo hi), S)
  | .fls xs => some (.loc S.length, S ++ [.lst (cutP xs lo hi)])
  | .str x => if x.length ≤ 16777216 then some (.str (cutS x lo hi), S) else none
  | .loc l => match S[l]? with | some (.lst xs) => some (.loc S.length, S ++ [.lst (cutP xs lo hi)]) | _ => none
  | _ => none
def slM (m : EM PV) (lo hi : EM (Option Int)) : EM PV := fun τ S => bnd (m τ S) fun p S1 => bnd (lo τ S1) fun l S2 => bnd (hi τ S2) fun h S3 => lift (slP p l h S3)
theorem cut_whole {α : Type} (xs : List α) (i j : Nat) (h1 : i = 0) (h2 : j = xs.length) : (xs.drop i).take (j - i) = xs := by subst h1; subst h2; simp
theorem re_slice {lo hi : Option Expr} {ml mh : EM (Option Int)} (he : RE X W e ma) (hl : RO X W lo ml) (hu : RO X W hi mh) : RE X W (.Subscript e (.Slice lo hi none p2) pos) (slM ma ml mh) := by
  refine ⟨pe_weak (pe_slice ((sl_list.or PLz.sl_tupZ).or sl_str) he.pe hl.po hu.po) fun σ H Q h => ?_⟩
  obtain ⟨ι, τ, S, r, ρ, pk⟩ := h
  refine ⟨ι, τ, S, r, ρ, pk.next.mono ?_⟩
  rintro x H1 ⟨p, ι1, S1, e1, r1, q1, pk1⟩
  refine ⟨ι1, τ, S1, r1, ρ.up e1, pk1.next.mono ?_⟩
  rintro l H2 ⟨l', ι2, S2, e2, r2, q2, pk2⟩
  refine ⟨ι2, τ, S2, r2, (ρ.up e1).up e2, pk2.next.mono ?_⟩
  rintro u H3 ⟨u', ι3, S3, e3, r3, q3, pk3⟩
  have ql : l' = l := q2
  subst ql
  have qu : u' = u := q3
  subst qu
  have q1 := (q1.up e2).up e3
  obtain ⟨v, S', hf, k⟩ := pk_lift pk3
  unfold slP at hf
  split at hf
  · cases hf
    obtain ⟨a, vs, rfl, h1, h2⟩ := q1
    refine .inl (.inr ⟨a, vs, rfl, h1.seq, fun hw => ?_, fun hw p hp o ho => ?_⟩)
    · refine k _ _ _ .refl r3 ⟨a, vs, rfl, h1, ?_⟩
      have e := h2.cut l' u'
      have e2 : cutV vs l' u' = vs := cut_whole vs _ _ hw.1 hw.2
      rw [e2] at e
      exact e
    · obtain ⟨E, r4⟩ := r3.tup (ho := .frz o (.tup (cutV vs l' u'))) hp
      exact k _ _ _ E r4 ⟨p, _, rfl, .inl ⟨o, upd_same, ho⟩, (h2.cut l' u').up E⟩
  · cases hf
    obtain ⟨a, vs, rfl, h1, h2⟩ := q1
    refine .inl (.inl ⟨a, vs, rfl, h1.seq, fun p hp => ?_⟩)
    obtain ⟨E, r4, q4⟩ := r3.new_lst hp (h2.cut l' u')
    exact k _ _ _ E r4 q4
  · split at hf
    · rename_i hl
      cases hf
      exact .inr ⟨_, q1, by rw [sizeLine_eq]; exact hl, k _ _ _ .refl r3 rfl⟩
    · cases hf
  · split at hf
    · rename_i xs eS
      cases hf
      obtain ⟨a, rfl, h1⟩ := q1
      obtain ⟨vs, h2, h3⟩ := r3.obj _ a _ h1 eS
      refine .inl (.inl ⟨a, vs, rfl, .of h2, fun p hp => ?_⟩)
      obtain ⟨E, r4, q4⟩ := r3.new_lst hp (h3.cut l' u')
      exact k _ _ _ E r4 q4
    · cases hf
  · cases hf
/-- xs[::-1] of a list -/
def revP (p : PV) (S : Sto) : Option (PV × Sto) := match p with
  | .fls xs => some (.loc S.length, S ++ [.lst xs.reverse])
  | .loc l => match S[l]? with | some (.lst xs) => some (.loc S.length, S ++ [.lst xs.reverse]) | _ => none
  | _ => none
def unM (f : PV → Sto → Option (PV × Sto)) (m : EM PV) : EM PV := fun τ S => bnd (m τ S) fun p S1 => lift (f p S1)
theorem re_revL {k : Nat} {p1 p3 p4 : Pos} (he : RE X W e ma) : RE X W (.Subscript e (.Slice none none (some (.UnaryOp .USub (.Constant (.int 1) k p1) p2)) p3) pos) (unM revP ma) := by
  refine ⟨pe_weak (pe_revL he.pe) fun σ H Q h => ?_⟩
  obtain ⟨ι, τ, S, r, ρ, pk⟩ := h
  refine ⟨ι, τ, S, r, ρ, pk.next.mono ?_⟩
  rintro x H1 ⟨p, ι1, S1, e1, r1, q1, pk1⟩
  obtain ⟨v, S', hf, k⟩ := pk_lift pk1
  unfold revP at hf
  split at hf
  · cases hf
    obtain ⟨a, vs, rfl, h1, h2⟩ := q1
    refine ⟨a, vs, rfl, h1.seq, fun p hp => ?_⟩
    obtain ⟨E, r4, q4⟩ := r1.new_lst hp h2.rev
    exact k _ _ _ E r4 q4
  · split at hf
    · rename_i xs eS
      cases hf
      obtain ⟨a, rfl, h1⟩ := q1
      obtain ⟨vs, h2, h3⟩ := r1.obj _ a _ h1 eS
      refine ⟨a, vs, rfl, .of h2, fun p hp => ?_⟩
      obtain ⟨E, r4, q4⟩ := r1.new_lst hp h3.rev
      exact k _ _ _ E r4 q4
    · cases hf
  · cases hf
/-- -a -/
def negP (p : PV) (S : Sto) : Option (PV × Sto) := match p with | .int i => some (.int (-i), S) | _ => none
theorem re_neg (he : RE X W e ma) : RE X W (.UnaryOp .USub e pos) (unM negP ma) := by
  refine ⟨pe_weak (pe_un un_neg he.pe) fun σ H Q h => ?_⟩
  obtain ⟨ι, τ, S, r, ρ, pk⟩ := h
  refine ⟨ι, τ, S, r, ρ, pk.next.mono ?_⟩
  rintro x H1 ⟨p, ι1, S1, e1, r1, q1, pk1⟩
  cases p with
  | int i => exact ⟨i, q1, pk1 _ _ _ .refl r1 rfl⟩
  | _ => exact pk1.elim

/-! ### calls of built-ins by name -/
abbrev OpN := List PV → Sto → Option (PV × Sto)
def gCall (X : Cx) (f : OpN) : List V → Hp → VK → Prop := fun xs H Q => ∃ ι S ps v S', RSt X.K X.mg ι H S ∧ RpL X.K ι H ps xs ∧ f ps S = some (v, S') ∧
  ∀ ι' H' z, Ext ι H ι' H' → RSt X.K X.mg ι' H' S' → Rp X.K ι' H' v z → Q z H'
def callM (f : OpN) (ms : EM (List PV)) : EM PV := fun τ S => bnd (ms τ S) fun ps S1 => lift (f ps S1)
theorem call_read {f : OpN} (σ : L2.St) (H : Hp) (Q : VK) (h : gE X W (rV X) (callM f mas) σ H Q) : tCB (gCall X f) (gE X W (rL X) mas) σ H Q := by
  obtain ⟨ι, τ, S, r, ρ, pk⟩ := h
  refine ⟨ι, τ, S, r, ρ, pk.next.mono ?_⟩
  rintro xs H1 ⟨ps, ι1, S1, e1, r1, q1, pk1⟩
  obtain ⟨v, S', hf, k⟩ := pk_lift pk1
  exact ⟨ι1, S1, ps, v, S', r1, q1, hf, k⟩
theorem re_callB {x : Str} {p : Pos} {id : String} {f : OpN} (hc : CallR X (.builtin id) (gCall X f)) (hg : Gl X x) (hm : X.mg x = none) (hv : bootBuiltins x = some (.builtin id)) (ha : RA X W (e :: es) mas) (hn : x ≠ "__name__" := by decide) (hdb : (x == ("__debug__" : Str)) = false := by decide)
    (he : starEach (e :: es) X.env = (false, eval e X.env) :: starEach es X.env := by rfl) (hpl : (backTo pos (starEach es X.env)).any (·.1) = false := by rfl) : RE X W (.Call (.Name x p) (e :: es) [] pos) (callM f mas) :=
  ⟨pe_weak (pe_callB hc hg hm hv ha.pa hn hdb he hpl) call_read⟩
theorem re_callTy {x : Str} {p : Pos} {T : String} {f : OpN} (hc : CallR X (.type T) (gCall X f)) (hg : Gl X x) (hm : X.mg x = none) (hv : bootBuiltins x = some (.type T)) (ha : RA X W (e :: es) mas) (hn : x ≠ "__name__" := by decide) (hdb : (x == ("__debug__" : Str)) = false := by decide)
    (he : starEach (e :: es) X.env = (false, eval e X.env) :: starEach es X.env := by rfl) (hpl : (backTo pos (starEach es X.env)).any (·.1) = false := by rfl) : RE X W (.Call (.Name x p) (e :: es) [] pos) (callM f mas) :=
  ⟨pe_weak (pe_callTy hc hg hm hv ha.pa hn hdb he hpl) call_read⟩
/-- one argument by cases -/
def on1 (f : PV → Sto → Option (PV × Sto)) : OpN := fun ps S => match ps with | [p] => f p S | _ => none
def on2 (f : PV → PV → Sto → Option (PV × Sto)) : OpN := fun ps S => match ps with | [p, q] => f p q S | _ => none
theorem rpl1 {K : PySem.W.Frag} {ι : List Addr} {H : Hp} {p : PV} {xs : List V} (h : RpL K ι H [p] xs) : ∃ x, xs = [x] ∧ Rp K ι H p x := by
  obtain ⟨v, r, rfl, h1, h2⟩ := h
  cases (show r = _ from h2)
  exact ⟨v, rfl, h1⟩
theorem rpl2 {K : PySem.W.Frag} {ι : List Addr} {H : Hp} {p q : PV} {xs : List V} (h : RpL K ι H [p, q] xs) : ∃ x y, xs = [x, y] ∧ Rp K ι H p x ∧ Rp K ι H q y := by
  obtain ⟨v, r, rfl, h1, h2⟩ := h
  obtain ⟨y, rfl, h3⟩ := rpl1 h2
  exact ⟨v, y, rfl, h1, h3⟩
theorem cr_on1 {g : Value} {f : PV → Sto → Option (PV × Sto)} (h : ∀ (pins : List (Addr × Obj)) (s : Shared) (σ : L2.St) (H : Hp) (us : List Value) (Q : VK) (ι : List Addr) (S : Sto) (p : PV) (x : V) (v : PV) (S' : Sto), Inv X pins σ H s → Vals [x] us → RSt X.K X.mg ι H S → Rp X.K ι H p x → f p S = some (v, S') →
      (∀ ι' H' z, Ext ι H ι' H' → RSt X.K X.mg ι' H' S' → Rp X.K ι' H' v z → Q z H') → wpAny (model X.prog X.w) X.A (call g us) (EP X pins σ Q) X.xe s) : CallR X g (gCall X (on1 f)) := by
  intro pins s σ H xs us Q I r ⟨ι, S, ps, v, S', rs, rp, hf, k⟩
  unfold on1 at hf
  split at hf
  · obtain ⟨x, rfl, h1⟩ := rpl1 rp
    exact h pins s σ H us Q ι S _ x v S' I r rs h1 hf k
  · cases hf
def lenP (p : PV) (S : Sto) : Option (PV × Sto) := match p with
  | .tup xs => some (.int xs.length, S)
  | .fls xs => some (.int xs.length, S)
  | .str x => if x.length ≤ 16777216 then some (.int x.length, S) else none
  | .loc l => match S[l]? with
    | some (.lst xs) => some (.int xs.length, S)
    | some (.dct kvs) => some (.int kvs.length, S)
    | _ => none
  | _ => none
theorem cr_len : CallR X (.builtin "len") (gCall X (on1 lenP)) := cr_on1 fun pins s σ H us Q ι S p x v S' I r rs rp hf k => by
  unfold lenP at hf
  split at hf
  · cases hf
    obtain ⟨a, vs, rfl, h1, h2⟩ := rp
    exact call_len pins s σ H _ us Q I r ⟨_, _, rfl, .inr ⟨vs, h1.seq, rfl⟩, k _ _ _ .refl rs (by rw [h2.length]; rfl)⟩
  · cases hf
    obtain ⟨a, vs, rfl, h1, h2⟩ := rp
    exact call_len pins s σ H _ us Q I r ⟨_, _, rfl, .inl ⟨vs, h1.seq, rfl⟩, k _ _ _ .refl rs (by rw [h2.length]; rfl)⟩
  · split at hf
    · rename_i hl
      cases hf
      cases (show x = _ from rp)
      exact call_len pins s σ H _ us Q I r ⟨_, _, rfl, ⟨by rw [sizeLine_eq]; exact hl, rfl⟩, k _ _ _ .refl rs rfl⟩
    · cases hf
  · split at hf
    · rename_i xs eS
      cases hf
      obtain ⟨a, rfl, h1⟩ := rp
      obtain ⟨vs, h2, h3⟩ := rs.obj _ a _ h1 eS
      exact call_len pins s σ H _ us Q I r ⟨_, _, rfl, .inl ⟨vs, .of h2, rfl⟩, k _ _ _ .refl rs (by rw [h3.length]; rfl)⟩
    · rename_i xs eS
      cases hf
      obtain ⟨a, rfl, h1⟩ := rp
      obtain ⟨vs, h2, h3⟩ := rs.obj _ a _ h1 eS
      exact call_lenD pins s σ H _ us Q I r ⟨a, vs, rfl, h2, k _ _ _ .refl rs (by rw [h3.length]; rfl)⟩
    · cases hf
  · cases hf
def listP (p : PV) (S : Sto) : Option (PV × Sto) := (itemsP p S).map fun xs => (.loc S.length, S ++ [.lst xs])
def tupleP (p : PV) (S : Sto) : Option (PV × Sto) := (itemsP p S).map fun xs => (.tup xs, S)
theorem items_rp {ι : List Addr} {H : Hp} {S : Sto} {p : PV} {x : V} {xs : List PV} (rs : RSt X.K X.mg ι H S) (rp : Rp X.K ι H p x) (h : itemsP p S = some xs) :
    ∃ a vs, x = .ref a ∧ RpL X.K ι H xs vs ∧ (SqL X.K H a vs ∨ (p = .tup xs ∧ SqT X.K H a vs)) := by
  unfold itemsP at h
  split at h
  · cases h
    obtain ⟨a, vs, rfl, h1, h2⟩ := rp
    exact ⟨a, vs, rfl, h2, .inr ⟨rfl, h1.seq⟩⟩
  · cases h
    obtain ⟨a, vs, rfl, h1, h2⟩ := rp
    exact ⟨a, vs, rfl, h2, .inl h1.seq⟩
  · split at h
    · rename_i eS
      cases h
      obtain ⟨a, rfl, h1⟩ := rp
      obtain ⟨vs, h2, h3⟩ := rs.obj _ a _ h1 eS
      exact ⟨a, vs, rfl, h3, .inl (.of h2)⟩
    · cases h
  · cases h
theorem cr_list : CallR X (.type "list") (gCall X (on1 listP)) := cr_on1 fun pins s σ H us Q ι S p x v S' I r rs rp hf k => by
  unfold listP at hf
  cases hi : itemsP p S with
  | none => rw [hi] at hf; cases hf
  | some xs =>
    rw [hi] at hf
    cases hf
    obtain ⟨a, vs, rfl, h1, h2⟩ := items_rp rs rp hi
    refine call_list_of pins s σ H _ us Q I r ⟨a, vs, rfl, h2.imp id (·.2), fun l hl => ?_⟩
    obtain ⟨E, r4, q4⟩ := rs.new_lst hl h1
    exact k _ _ _ E r4 q4
theorem cr_tuple : CallR X (.type "tuple") (gCall X (on1 tupleP)) := cr_on1 fun pins s σ H us Q ι S p x v S' I r rs rp hf k => by
  unfold tupleP at hf
  cases hi : itemsP p S with
  | none => rw [hi] at hf; cases hf
  | some xs =>
    rw [hi] at hf
    cases hf
    obtain ⟨a, vs, rfl, h1, h2⟩ := items_rp rs rp hi
    refine PLz.call_tupleZ pins s σ H _ us Q I r ⟨a, vs, rfl, ?_⟩
    rcases h2 with h2 | ⟨rfl, h2⟩
    · refine .inl ⟨h2, fun l hl o ho => ?_⟩
      obtain ⟨E, r4⟩ := rs.tup (ho := .frz o (.tup vs)) hl
      exact k _ _ _ E r4 ⟨l, vs, rfl, .inl ⟨o, upd_same, ho⟩, h1.up E⟩
    · exact .inr ⟨h2, k _ _ _ .refl rs rp⟩
/-- a list of truths -/
def boolsP : List PV → Option (List Bool)
  | [] => some []
  | .bl b :: r => (boolsP r).map fun bs => b :: bs
  | _ => none
theorem bools_rp {K : PySem.W.Frag} {ι : List Addr} {H : Hp} : ∀ {xs : List PV} {bs : List Bool} {vs : List V}, RpL K ι H xs vs → boolsP xs = some bs → vs = bs.map V.bl
  | [], bs, _, h, e => by cases e; exact h
  | x :: xs, bs, _, h, e => by
    obtain ⟨v, r, rfl, h1, h2⟩ := h
    cases x with
    | bl b =>
      unfold boolsP at e
      cases q : boolsP xs with
      | none => rw [q] at e; cases e
      | some bs' =>
        rw [q] at e
        cases e
        cases (show v = _ from h1)
        rw [bools_rp h2 q]; rfl
    | _ => cases e
def allP (p : PV) (S : Sto) : Option (PV × Sto) := match p with
  | .loc l => match S[l]? with | some (.lst xs) => (boolsP xs).map fun bs => (.bl (bs.all id), S) | _ => none
  | _ => none
def anyP (p : PV) (S : Sto) : Option (PV × Sto) := match p with
  | .loc l => match S[l]? with | some (.lst xs) => (boolsP xs).map fun bs => (.bl (bs.any id), S) | _ => none
  | _ => none
theorem cr_allP (hc : X.calm = true) : CallR X (.builtin "all") (gCall X (on1 allP)) := cr_on1 fun pins s σ H us Q ι S p x v S' I r rs rp hf k => by
  unfold allP at hf
  split at hf
  · split at hf
    · rename_i xs eS
      cases hb : boolsP xs with
      | none => rw [hb] at hf; cases hf
      | some bs =>
        rw [hb] at hf
        cases hf
        obtain ⟨a, rfl, h1⟩ := rp
        obtain ⟨vs, h2, h3⟩ := rs.obj _ a _ h1 eS
        have e := bools_rp h3 hb
        subst e
        exact cr_all hc pins s σ H _ us Q I r ⟨a, bs, rfl, .of h2, k _ _ _ .refl rs rfl⟩
    · cases hf
  · cases hf
theorem cr_anyP (hc : X.calm = true) : CallR X (.builtin "any") (gCall X (on1 anyP)) := cr_on1 fun pins s σ H us Q ι S p x v S' I r rs rp hf k => by
  unfold anyP at hf
  split at hf
  · split at hf
    · rename_i xs eS
      cases hb : boolsP xs with
      | none => rw [hb] at hf; cases hf
      | some bs =>
        rw [hb] at hf
        cases hf
        obtain ⟨a, rfl, h1⟩ := rp
        obtain ⟨vs, h2, h3⟩ := rs.obj _ a _ h1 eS
        have e := bools_rp h3 hb
        subst e
        exact cr_any hc pins s σ H _ us Q I r ⟨a, bs, rfl, .of h2, k _ _ _ .refl rs rfl⟩
    · cases hf
  · cases hf
def intP (p : PV) (S : Sto) : Option (PV × Sto) := match p with
  | .int i => some (.int i, S)
  | .bl k => some (.int (if k then 1 else 0), S)
  | _ => none
theorem cr_int : CallR X (.type "int") (gCall X (on1 intP)) := cr_on1 fun pins s σ H us Q ι S p x v S' I r rs rp hf k => by
  unfold intP at hf
  split at hf
  · cases hf; cases (show x = _ from rp)
    exact call_int1 pins s σ H _ us Q I r (.inl ⟨_, rfl, k _ _ _ .refl rs rfl⟩)
  · cases hf; cases (show x = _ from rp)
    exact call_int1 pins s σ H _ us Q I r (.inr ⟨_, rfl, k _ _ _ .refl rs rfl⟩)
  · cases hf
def absP (p : PV) (S : Sto) : Option (PV × Sto) := match p with | .int i => some (.int (if i < 0 then -i else i), S) | _ => none
theorem cr_abs : CallR X (.builtin "abs") (gCall X (on1 absP)) := cr_on1 fun pins s σ H us Q ι S p x v S' I r rs rp hf k => by
  unfold absP at hf
  split at hf
  · cases hf; cases (show x = _ from rp)
    exact call_abs pins s σ H _ us Q I r ⟨_, rfl, k _ _ _ .refl rs rfl⟩
  · cases hf
def maxP (p q : PV) (S : Sto) : Option (PV × Sto) := match p, q with | .int i, .int j => some (.int (if j > i then j else i), S) | _, _ => none
def minP (p q : PV) (S : Sto) : Option (PV × Sto) := match p, q with | .int i, .int j => some (.int (if j < i then j else i), S) | _, _ => none
theorem cr_max2P (hc : X.calm = true) : CallR X (.builtin "max") (gCall X (on2 maxP)) := by
  intro pins s σ H xs us Q I r ⟨ι, S, ps, v, S', rs, rp, hf, k⟩
  unfold on2 at hf
  split at hf
  · obtain ⟨x, y, rfl, h1, h2⟩ := rpl2 rp
    unfold maxP at hf
    split at hf
    · cases hf; cases (show x = _ from h1); cases (show y = _ from h2)
      exact call_max2 hc pins s σ H _ us Q I r ⟨_, _, rfl, k _ _ _ .refl rs rfl⟩
    · cases hf
  · cases hf
theorem cr_min2P (hc : X.calm = true) : CallR X (.builtin "min") (gCall X (on2 minP)) := by
  intro pins s σ H xs us Q I r ⟨ι, S, ps, v, S', rs, rp, hf, k⟩
  unfold on2 at hf
  split at hf
  · obtain ⟨x, y, rfl, h1, h2⟩ := rpl2 rp
    unfold minP at hf
    split at hf
    · cases hf; cases (show x = _ from h1); cases (show y = _ from h2)
      exact call_min2 hc pins s σ H _ us Q I r ⟨_, _, rfl, k _ _ _ .refl rs rfl⟩
    · cases hf
  · cases hf
/-! ### isinstance(x, T) -/
def tyNm (p : PV) (S : Sto) : Option String := match p with
  | .non => some "NoneType" | .bl _ => some "bool" | .int _ => some "int" | .str _ => some "str" | .tup _ => some "tuple" | .fls _ => some "list"
  | .loc l => match S[l]? with | some (.lst _) => some "list" | some (.dct _) => some "dict" | _ => none
def isiP (T : String) (p : PV) (S : Sto) : Option Bool := (tyNm p S).bind fun t => kitB t T
def isiM (T : String) (m : EM PV) : EM PV := fun τ S => bnd (m τ S) fun p S1 => match isiP T p S1 with | some b => .ok (.bl b) S1 | none => .bad
theorem ty_rp {ι : List Addr} {H : Hp} {S : Sto} {p : PV} {x : V} {t : String} (rs : RSt X.K X.mg ι H S) (rp : Rp X.K ι H p x) (h : tyNm p S = some t) : TyX X.K H x (.type t) := by
  unfold tyNm at h
  split at h
  · cases h; cases (show x = _ from rp); exact .base .non
  · cases h; cases (show x = _ from rp); exact .base (.bl _)
  · cases h; cases (show x = _ from rp); exact .base (.int _)
  · cases h; cases (show x = _ from rp); exact .base (.str _)
  · cases h
    obtain ⟨a, vs, rfl, h1, h2⟩ := rp
    rcases h1 with ⟨o, h1, _⟩ | ⟨o, its, n, h1, h3, _⟩
    · exact .fTuple h1
    · exact .kTuple h1 h3
  · cases h
    obtain ⟨a, vs, rfl, h1, h2⟩ := rp
    rcases h1 with ⟨o, h1⟩ | ⟨o, its, n, h1, h3, _⟩
    · exact .base (.frz h1)
    · exact .kList h1 h3
  · split at h
    · rename_i eS
      cases h
      obtain ⟨a, rfl, h1⟩ := rp
      obtain ⟨vs, h2, h3⟩ := rs.obj _ a _ h1 eS
      exact .base (.lst h2)
    · rename_i eS
      cases h
      obtain ⟨a, rfl, h1⟩ := rp
      obtain ⟨vs, h2, h3⟩ := rs.obj _ a _ h1 eS
      exact .base (.dK h2)
    · cases h
theorem re_isi {x2 : Str} {p p3 : Pos} {T : String} (hg : Gl X "isinstance") (hm : X.mg "isinstance" = none) (hg2 : Gl X x2) (hm2 : X.mg x2 = none) (hv2 : bootBuiltins x2 = some (.type T)) (ha : RE X W a ma)
    (hv : bootBuiltins "isinstance" = some (.builtin "isinstance") := by decide +kernel) (hn2 : x2 ≠ "__name__" := by decide) (hdb2 : (x2 == ("__debug__" : Str)) = false := by decide)
    (he : starEach [a, .Name x2 p3] X.env = (false, eval a X.env) :: starEach [.Name x2 p3] X.env := by rfl) (he2 : starEach [.Name x2 p3] X.env = (false, eval (.Name x2 p3) X.env) :: starEach [] X.env := by rfl)
    (hpl : (backTo pos (starEach [.Name x2 p3] X.env)).any (·.1) = false := by rfl) : RE X W (.Call (.Name "isinstance" p) [a, .Name x2 p3] [] pos) (isiM T ma) := by
  refine ⟨pe_weak (pe_callB call_isi hg hm hv (pa_cons ha.pe (pa_cons (pe_bltn (v := .ty T) hg2 hm2 hv2 rfl hn2 hdb2) pa_nil he2) he) (by decide) (by decide) he hpl) fun σ H Q h => ?_⟩
  obtain ⟨ι, τ, S, r, ρ, pk⟩ := h
  refine ⟨ι, τ, S, r, ρ, pk.next.mono ?_⟩
  rintro x H1 ⟨q, ι1, S1, e1, r1, q1, pk1⟩
  show rIsi X.K [x, .ty T] H1 Q
  unfold isiP at pk1
  cases ht : tyNm q S1 with
  | none => simp only [ht, Option.bind] at pk1; exact pk1.elim
  | some t =>
    simp only [ht, Option.bind] at pk1
    cases hk : kitB t T with
    | none => simp only [hk] at pk1; exact pk1.elim
    | some b =>
      simp only [hk] at pk1
      exact ⟨x, .ty T, .type t, .type T, b, rfl, .ty T, ty_rp r1 q1 ht, kit_ty hk, pk1 _ _ _ .refl r1 rfl⟩
end
end PL
/-! PLF: methods of built-in types, calls of defs, statements, loops. -/
namespace PL
open PySem PySem.Spec PyProof.Rows L2
section
variable {X : Cx} {W : WX} {a b c e o : Expr} {es rest : List Expr} {ma mb mc mo : EM PV} {tA tB' : EM Bool} {mas : EM (List PV)} {pos apos cpos p2 : Pos}
/-! ### methods of built-in types -/
abbrev OpM := PV → List PV → Sto → Option (PV × Sto)
def gMt (X : Cx) (f : OpM) : V → List V → Hp → VK → Prop := fun x xs H Q => ∃ ι S p ps v S', RSt X.K X.mg ι H S ∧ Rp X.K ι H p x ∧ RpL X.K ι H ps xs ∧ f p ps S = some (v, S') ∧
  ∀ ι' H' z, Ext ι H ι' H' → RSt X.K X.mg ι' H' S' → Rp X.K ι' H' v z → Q z H'
def isTy (T : String) (p : PV) (S : Sto) : Bool := match p with
  | .str _ => T == "str"
  | .fls _ => T == "list"
  | .loc l => match S[l]? with | some (.lst _) => T == "list" | some (.dct _) => T == "dict" | _ => false
  | _ => false
theorem isTy_rp {T : String} {ι : List Addr} {H : Hp} {S : Sto} {p : PV} {x : V} (rs : RSt X.K X.mg ι H S) (rp : Rp X.K ι H p x) (h : isTy T p S = true) : tyV X.K T x H := by
  unfold isTy at h
  split at h
  · cases (show x = _ from rp); exact eq_of_beq h
  · obtain ⟨a, vs, rfl, h1, h2⟩ := rp
    exact .inl ⟨eq_of_beq h, vs, h1.seq⟩
  · obtain ⟨a, rfl, h1⟩ := rp
    split at h
    · rename_i eS
      obtain ⟨vs, h2, h3⟩ := rs.obj _ a _ h1 eS
      exact .inl ⟨eq_of_beq h, vs, .of h2⟩
    · rename_i eS
      obtain ⟨vs, h2, h3⟩ := rs.obj _ a _ h1 eS
      exact .inr (.inr (.inl ⟨eq_of_beq h, .inl ⟨vs, h2⟩⟩))
    · cases h
  · cases h
def mtM (T : String) (f : OpM) (m : EM PV) (ms : EM (List PV)) : EM PV := fun τ S => bnd (m τ S) fun p S1 => if isTy T p S1 = true then bnd (ms τ S1) fun ps S2 => lift (f p ps S2) else .bad
theorem re_bm0 {T id : String} {name : Str} {f : OpM} (pa : PlainAttrs T) (slot : Slot T name id) (hty : typeOf (.builtin id) = pure (.type "method_descriptor")) (hm : MtR X id (gMt X f)) (ho : RE X W o mo)
    (hbase : attributeBase o name X.env (eval o X.env) = eval o X.env := by rfl) (hline : (apos.endLine == cpos.line) = true := by rfl) : RE X W (.Call (.Attribute o name apos) [] [] cpos) (mtM T f mo aN) := by
  refine ⟨pe_weak (pe_bm0 pa slot hty hm ho.pe hbase hline) fun σ H Q h => ?_⟩
  obtain ⟨ι, τ, S, r, ρ, pk⟩ := h
  refine ⟨ι, τ, S, r, ρ, pk.next.mono ?_⟩
  rintro x H1 ⟨p, ι1, S1, e1, r1, q1, pk1⟩
  split at pk1
  · rename_i ht
    obtain ⟨v, S', hf, k⟩ := pk_lift (show Pk X W (rV X) σ Q ι1 H1 (lift (f p [] S1)) from pk1)
    exact ⟨isTy_rp r1 q1 ht, ι1, S1, p, [], v, S', r1, q1, rfl, hf, k⟩
  · exact pk1.elim
theorem re_bm {T id : String} {name : Str} {f : OpM} (pa : PlainAttrs T) (slot : Slot T name id) (hty : typeOf (.builtin id) = pure (.type "method_descriptor")) (hm : MtR X id (gMt X f)) (ho : RE X W o mo) (ha : RA X W (e :: es) mas)
    (hbase : attributeBase o name X.env (eval o X.env) = eval o X.env := by rfl)
    (hfew : ((backTo cpos (starEach (e :: es) X.env)).all (fun x => !x.1) && (backToKw cpos (keywordEach [] X.env)).all (fun x => x.1.isSome)
      && decide ((e :: es).length + ([] : List Keyword).length + (if ([] : List Keyword).isEmpty then 0 else 1) < 30)) = true := by rfl)
    (hline : (apos.endLine == cpos.line) = true := by rfl) (hs : starEach (e :: es) X.env = (false, eval e X.env) :: starEach es X.env := by rfl) (hplain : (backTo cpos (starEach es X.env)).any (·.1) = false := by rfl) :
    RE X W (.Call (.Attribute o name apos) (e :: es) [] cpos) (mtM T f mo mas) := by
  refine ⟨pe_weak (pe_bm pa slot hty hm ho.pe ha.pa hbase hfew hline hs hplain) fun σ H Q h => ?_⟩
  obtain ⟨ι, τ, S, r, ρ, pk⟩ := h
  refine ⟨ι, τ, S, r, ρ, pk.next.mono ?_⟩
  rintro x H1 ⟨p, ι1, S1, e1, r1, q1, pk1⟩
  split at pk1
  · rename_i ht
    refine ⟨isTy_rp r1 q1 ht, ι1, τ, S1, r1, ρ.up e1, pk1.next.mono ?_⟩
    rintro xs H2 ⟨ps, ι2, S2, e2, r2, q2, pk2⟩
    obtain ⟨v, S', hf, k⟩ := pk_lift pk2
    exact ⟨ι2, S2, p, ps, v, S', r2, q1.up e2, q2, hf, k⟩
  · exact pk1.elim
theorem nones {ι : List Addr} {H H' : Hp} {S' : Sto} {Q : VK} (k : ∀ ι' H' z, Ext ι H ι' H' → RSt X.K X.mg ι' H' S' → Rp X.K ι' H' .non z → Q z H') (h : Ext ι H ι H' ∧ RSt X.K X.mg ι H' S') : Q .non H' := k ι H' .non h.1 h.2 rfl
def appendP : OpM := fun p ps S => match p, ps with
  | .loc l, [q] => match S[l]? with | some (.lst xs) => if xs.length < 16777216 then some (.non, S.set l (.lst (xs ++ [q]))) else none | _ => none
  | _, _ => none
theorem om_append : MtR X "list.append" (gMt X appendP) := by
  intro pins s σ H x xs v us Q I rx rxs ⟨ι, S, p, ps, w, S', rs, rp, rps, hf, k⟩
  unfold appendP at hf
  split at hf
  · split at hf
    · rename_i ys eS
      split at hf
      · rename_i hl
        cases hf
        obtain ⟨a, rfl, h1⟩ := rp
        obtain ⟨y, rfl, h2⟩ := rpl1 rps
        obtain ⟨vs, h3, h4⟩ := rs.obj _ a _ h1 eS
        refine mt_append pins s σ H _ _ v us Q I rx rxs ⟨a, vs, y, rfl, rfl, h3, by rw [← h4.length, sizeLine_eq]; exact hl, ?_⟩
        exact nones k (rs.wlst h1 (h4.app (RpL.one h2)))
      · cases hf
    · cases hf
  · cases hf
def extendP : OpM := fun p ps S => match p, ps with
  | .loc l, [.loc m] => match S[l]?, S[m]? with
    | some (.lst xs), some (.lst ys) => if xs.length + ys.length ≤ 16777216 then some (.non, S.set l (.lst (xs ++ ys))) else none
    | _, _ => none
  | _, _ => none
theorem om_extend : MtR X "list.extend" (gMt X extendP) := by
  intro pins s σ H x xs v us Q I rx rxs ⟨ι, S, p, ps, w, S', rs, rp, rps, hf, k⟩
  unfold extendP at hf
  split at hf
  · split at hf
    · rename_i ys zs eS eM
      split at hf
      · rename_i hl
        cases hf
        obtain ⟨a, rfl, h1⟩ := rp
        obtain ⟨y, rfl, b, rfl, h2⟩ := rpl1 rps
        obtain ⟨vs, h3, h4⟩ := rs.obj _ a _ h1 eS
        obtain ⟨ws, h5, h6⟩ := rs.obj _ b _ h2 eM
        refine mt_extend pins s σ H _ _ v us Q I rx rxs ⟨a, b, vs, ws, rfl, rfl, h3, h5, by rw [← h4.length, ← h6.length, sizeLine_eq]; exact hl, ?_⟩
        exact nones k (rs.wlst h1 (h4.app h6))
      · cases hf
    · cases hf
  · cases hf
def popP : OpM := fun p ps S => match p with
  | .loc l => match S[l]? with
    | some (.lst xs) => match ps with
      | [] => (xs[xs.length - 1]?).map fun y => (y, S.set l (.lst xs.dropLast))
      | [.int i] => if -4611686018427387904 ≤ i ∧ i < 4611686018427387904 then (ixN xs.length i).bind fun j => (xs[j]?).map fun y => (y, S.set l (.lst (xs.eraseIdx j))) else none
      | _ => none
    | _ => none
  | _ => none
theorem RpL.dropLast {K : PySem.W.Frag} {ι : List Addr} {H : Hp} {xs : List PV} {vs : List V} (h : RpL K ι H xs vs) : RpL K ι H xs.dropLast vs.dropLast := by
  rw [List.dropLast_eq_take, List.dropLast_eq_take, h.length]
  exact h.take _
theorem RpL.erase {K : PySem.W.Frag} {ι : List Addr} {H : Hp} : ∀ {xs : List PV} {vs : List V} (i : Nat), RpL K ι H xs vs → RpL K ι H (xs.eraseIdx i) (vs.eraseIdx i)
  | [], _, i, h => by cases (show _ = _ from h); rfl
  | x :: xs, _, 0, h => by
    obtain ⟨v, r, rfl, _, h2⟩ := h
    exact h2
  | x :: xs, _, i + 1, h => by
    obtain ⟨v, r, rfl, h1, h2⟩ := h
    exact ⟨v, r.eraseIdx i, rfl, h1, RpL.erase i h2⟩
theorem om_pop : MtR X "list.pop" (gMt X popP) := by
  intro pins s σ H x xs v us Q I rx rxs ⟨ι, S, p, ps, w, S', rs, rp, rps, hf, k⟩
  unfold popP at hf
  split at hf
  · split at hf
    · rename_i ys eS
      obtain ⟨a, rfl, h1⟩ := rp
      obtain ⟨vs, h3, h4⟩ := rs.obj _ a _ h1 eS
      split at hf
      · cases (show xs = _ from rps)
        cases hy : ys[ys.length - 1]? with
        | none => rw [hy] at hf; cases hf
        | some y =>
          rw [hy] at hf
          cases hf
          obtain ⟨y', h5, h6⟩ := h4.get hy
          obtain ⟨E, r2⟩ := rs.wlst h1 h4.dropLast
          exact mt_pop pins s σ H _ _ v us Q I rx rxs ⟨a, vs, y', rfl, rfl, h3, by rw [← h4.length]; exact h5, k _ _ _ E r2 (h6.up E)⟩
      · rename_i i
        split at hf
        · rename_i hi
          obtain ⟨z, rfl, h7⟩ := rpl1 rps
          cases (show z = _ from h7)
          cases hj : ixN ys.length i with
          | none => rw [hj] at hf; cases hf
          | some j =>
            rw [hj] at hf
            simp only [Option.bind] at hf
            cases hy : ys[j]? with
            | none => rw [hy] at hf; cases hf
            | some y =>
              rw [hy] at hf
              cases hf
              obtain ⟨y', h5, h6⟩ := h4.get hy
              obtain ⟨E, r2⟩ := rs.wlst h1 (h4.erase j)
              refine mt_popAt pins s σ H _ _ v us Q I rx rxs ⟨a, vs, i, j, y', rfl, rfl, h3, by omega, by omega, ?_, h5, k _ _ _ E r2 (h6.up E)⟩
              rw [← h4.length]
              exact (ixN_seq hj).1
        · cases hf
      · cases hf
    · cases hf
  · cases hf
def insertP : OpM := fun p ps S => match p, ps with
  | .loc l, [.int i, q] => match S[l]? with
    | some (.lst xs) => if xs.length < 16777216 ∧ 0 ≤ i ∧ i < 4611686018427387904 then some (.non, S.set l (.lst (xs.take i.toNat ++ [q] ++ xs.drop i.toNat))) else none
    | _ => none
  | _, _ => none
theorem om_insert : MtR X "list.insert" (gMt X insertP) := by
  intro pins s σ H x xs v us Q I rx rxs ⟨ι, S, p, ps, w, S', rs, rp, rps, hf, k⟩
  unfold insertP at hf
  split at hf
  · rename_i l i q
    split at hf
    · rename_i ys eS
      split at hf
      · rename_i hl
        cases hf
        obtain ⟨a, rfl, h1⟩ := rp
        obtain ⟨y, z, rfl, h2, h5⟩ := rpl2 rps
        cases (show y = _ from h2)
        obtain ⟨vs, h3, h4⟩ := rs.obj _ a _ h1 eS
        refine mt_insert pins s σ H _ _ v us Q I rx rxs ⟨a, vs, i, z, rfl, rfl, h3, by rw [← h4.length, sizeLine_eq]; exact hl.1, hl.2.1, by omega, ?_⟩
        exact nones k (rs.wlst h1 (((h4.take _).app (RpL.one h5)).app (h4.drop _)))
      · cases hf
    · cases hf
  · cases hf
def reverseP : OpM := fun p ps S => match p, ps with
  | .loc l, [] => match S[l]? with | some (.lst xs) => some (.non, S.set l (.lst xs.reverse)) | _ => none
  | _, _ => none
theorem om_reverse : MtR X "list.reverse" (gMt X reverseP) := by
  intro pins s σ H x xs v us Q I rx rxs ⟨ι, S, p, ps, w, S', rs, rp, rps, hf, k⟩
  unfold reverseP at hf
  split at hf
  · split at hf
    · rename_i ys eS
      cases hf
      cases (show xs = _ from rps)
      obtain ⟨a, rfl, h1⟩ := rp
      obtain ⟨vs, h3, h4⟩ := rs.obj _ a _ h1 eS
      exact mt_reverse pins s σ H _ _ v us Q I rx rxs ⟨a, vs, rfl, rfl, h3, nones k (rs.wlst h1 h4.rev)⟩
    · cases hf
  · cases hf
def clearP : OpM := fun p ps S => match p, ps with
  | .loc l, [] => match S[l]? with | some (.lst xs) => some (.non, S.set l (.lst [])) | _ => none
  | _, _ => none
theorem om_clear : MtR X "list.clear" (gMt X clearP) := by
  intro pins s σ H x xs v us Q I rx rxs ⟨ι, S, p, ps, w, S', rs, rp, rps, hf, k⟩
  unfold clearP at hf
  split at hf
  · split at hf
    · rename_i ys eS
      cases hf
      cases (show xs = _ from rps)
      obtain ⟨a, rfl, h1⟩ := rp
      obtain ⟨vs, h3, h4⟩ := rs.obj _ a _ h1 eS
      exact mt_clear pins s σ H _ _ v us Q I rx rxs ⟨a, vs, rfl, rfl, h3, nones k (rs.wlst h1 (show RpL X.K ι H [] [] from rfl))⟩
    · cases hf
  · cases hf
/-- texts -/
def strsP : List PV → Option (List Str)
  | [] => some []
  | .str x :: r => (strsP r).map fun xs => x :: xs
  | _ => none
theorem strs_rp {K : PySem.W.Frag} {ι : List Addr} {H : Hp} : ∀ {xs : List PV} {bs : List Str} {vs : List V}, RpL K ι H xs vs → strsP xs = some bs → vs = bs.map V.str
  | [], bs, _, h, e => by cases e; exact h
  | x :: xs, bs, _, h, e => by
    obtain ⟨v, r, rfl, h1, h2⟩ := h
    cases x with
    | str b =>
      unfold strsP at e
      cases q : strsP xs with
      | none => rw [q] at e; cases e
      | some bs' =>
        rw [q] at e
        cases e
        cases (show v = _ from h1)
        rw [strs_rp h2 q]; rfl
    | _ => cases e
def joinP : OpM := fun p ps S => match p, ps with
  | .str a, [q] => ((itemsP q S).bind strsP).bind fun ys => if (ys.map (·.length)).sum + ys.length * a.length ≤ 16777216 then some (.str (Txt.join a ys), S) else none
  | _, _ => none
theorem om_join : MtR X "str.join" (gMt X joinP) := by
  intro pins s σ H x xs v us Q I rx rxs ⟨ι, S, p, ps, w, S', rs, rp, rps, hf, k⟩
  unfold joinP at hf
  split at hf
  · rename_i a q
    cases hi : itemsP q S with
    | none => rw [hi] at hf; cases hf
    | some xs =>
      rw [hi] at hf
      simp only [Option.bind] at hf
      cases hy : strsP xs with
      | none => rw [hy] at hf; cases hf
      | some ys =>
        rw [hy] at hf
        simp only at hf
        split at hf
        · rename_i hl
          cases hf
          cases (show x = _ from rp)
          obtain ⟨y, rfl, h2⟩ := rpl1 rps
          obtain ⟨b, vs, rfl, h3, h4⟩ := items_rp rs h2 hi
          have e := strs_rp h3 hy
          subst e
          exact mt_join pins s σ H _ _ v us Q I rx rxs ⟨a, b, ys, rfl, rfl, h4.imp id (·.2), hl, k _ _ _ .refl rs rfl⟩
        · cases hf
  · cases hf
end
end PL
/-! PLG: promises by mirrors, calls of defs, statements, loops, comprehensions. -/
namespace PL
open PySem PySem.Spec PyProof.Rows L2
/-! ### a def's promise -/
abbrev FM := List PV → Sto → Out PV
def spD (K : PySem.W.Frag) (mg : Str → Option Value) (n : Nat) (F : FM) : Sp := fun vs H Q E => ∃ ι S ps, RSt K mg ι H S ∧ RpL K ι H ps vs ∧ ps.length = n ∧
  wp (F ps S) (fun v S' => ∀ ι' H' x, Ext ι H ι' H' → RSt K mg ι' H' S' → Rp K ι' H' v x → Q x H')
    (fun c p S' => ∀ ι' H' Ca d x, Ext ι H ι' H' → RSt K mg ι' H' S' → mg c = some (.ref Ca) → H' d = some (.xd [("what", x)]) → Rp K ι' H' p x → E (.ref Ca) (some d) H')
theorem spD_len {K : PySem.W.Frag} {mg : Str → Option Value} {n : Nat} {F : FM} : ∀ vs H Q E, spD K mg n F vs H Q E → vs.length = n := fun vs H Q E ⟨ι, S, ps, _, r, l, _⟩ => by rw [← r.length]; exact l
/-- the body's end as a call's end -/
def callS (n : Nat) (body : SM) : FM := fun ps S => match body (startE n ps) S with
  | .nx _ S' => .ok .non S'
  | .rt v S' => .ok v S'
  | .er c p _ S' => .er c p S'
  | .bad => .bad
def callD (F : FM) (ms : EM (List PV)) : EM PV := fun τ S => bnd (ms τ S) F
section
variable {X : Cx} {W : WX} {a b c e o : Expr} {es rest : List Expr} {ma mb mc mo : EM PV} {tA tB' : EM Bool} {mas : EM (List PV)} {pos apos cpos p2 : Pos}
theorem call_wish {n : Nat} {F : FM} {σ : L2.St} {Q : VK} {ι : List Addr} {H : Hp} {S : Sto} {ps : List PV} {vs : List V} (r : RSt X.K X.mg ι H S) (q : RpL X.K ι H ps vs) (hn : ps.length = n) (pk : Pk X W (rV X) σ Q ι H (F ps S)) : spD X.K X.mg n F vs H Q (WE W σ) :=
  ⟨ι, S, ps, r, q, hn, wp_mono pk (fun _ _ k => k) fun c p S' k ι' H' Ca d x e r m hd hp => k ι' H' Ca d x e r m hd hp⟩
theorem re_call {x : Str} {p : Pos} {n k : Nat} {F : FM} {f : Addr} {fd : FuncData} {ps : List Str} (G : FnOk X.prog X.w X.K X.mg X.base (L2.CX X.prog X.w) k f fd ps (spD X.K X.mg n F)) (hr : Room k X.A) (hg : Gl X x) (hm : X.mg x = some (.ref f)) (hk : PySem.W.keepIn X.K (.ref f) = true) (hb : Binds X.K fd ps [])
    (tk : Takes X W) (ha : RA X W (e :: es) mas) (hn : ∀ τ S qs S', mas τ S = .ok qs S' → qs.length = n) (hdb : (x == ("__debug__" : Str)) = false := by decide) (he : starEach (e :: es) X.env = (false, eval e X.env) :: starEach es X.env := by rfl) (hpl : (backTo pos (starEach es X.env)).any (·.1) = false := by rfl) :
    RE X W (.Call (.Name x p) (e :: es) [] pos) (callD F mas) := by
  refine ⟨pe_weak (pe_callSD (dvs := []) (E := WE W) G hr hg hm hk hb .nil (fun σ => passAt tk σ) ha.pa hdb he hpl) fun σ H Q h => ?_⟩
  obtain ⟨ι, τ, S, r, ρ, pk⟩ := h
  refine ⟨ι, τ, S, r, ρ, ?_⟩
  have hn' := hn τ S
  unfold callD at pk
  cases hm : mas τ S with
  | bad => rw [hm] at pk; exact pk.elim
  | er c p S' => rw [hm] at pk; exact pk
  | ok qs S1 =>
    have hl := hn' qs S1 hm
    rw [hm] at pk
    show ∀ ι' H' x, Ext ι H ι' H' → RSt X.K X.mg ι' H' S1 → RpL X.K ι' H' qs x → spD X.K X.mg n F (x ++ []) H' Q (WE W σ)
    intro ι' H' x e' r' q'
    rw [List.append_nil]
    exact call_wish r' q' hl (Pk.up (o := F qs S1) pk e')
theorem aN_len : ∀ (τ : En) (S : Sto) (qs : List PV) (S' : Sto), aN τ S = .ok qs S' → qs.length = 0 := fun τ S qs S' h => by cases h; rfl
theorem aC_len {n : Nat} {m : EM PV} {ms : EM (List PV)} (h : ∀ (τ : En) (S : Sto) (qs : List PV) (S' : Sto), ms τ S = .ok qs S' → qs.length = n) : ∀ (τ : En) (S : Sto) (qs : List PV) (S' : Sto), aC m ms τ S = .ok qs S' → qs.length = n + 1 := fun τ S qs S' hh => by
  unfold aC at hh
  cases h1 : m τ S with
  | bad => rw [h1] at hh; cases hh
  | er c p S1 => rw [h1] at hh; cases hh
  | ok p S1 =>
    rw [h1] at hh
    simp only [bnd_ok] at hh
    cases h2 : ms τ S1 with
    | bad => rw [h2] at hh; cases hh
    | er c p S1 => rw [h2] at hh; cases hh
    | ok ps S2 =>
      rw [h2] at hh
      cases hh
      simp [h τ S1 ps S' h2]
/-! ### statements -/
def PkS (X : Cx) (W : WX) (D : Ends) (ι : List Addr) (H : Hp) (o : OS) : Prop :=
  wpS o (fun τ' S' => ∀ ι' H' σ', Ext ι H ι' H' → RSt X.K X.mg ι' H' S' → REn X.K ι' H' τ' σ' → D.nx σ' H')
    (fun v S' => ∀ ι' H' x, Ext ι H ι' H' → RSt X.K X.mg ι' H' S' → Rp X.K ι' H' v x → D.rt x H')
    (fun c p τ' S' => ∀ ι' H' σ' Ca d x, Ext ι H ι' H' → RSt X.K X.mg ι' H' S' → REn X.K ι' H' τ' σ' → X.mg c = some (.ref Ca) → H' d = some (.xd [("what", x)]) → Rp X.K ι' H' p x → W (.ref Ca) (some d) σ' H')
theorem PkS.up {D : Ends} {ι ι1 : List Addr} {H H1 : Hp} {o : OS} (h : PkS X W D ι H o) (e : Ext ι H ι1 H1) : PkS X W D ι1 H1 o :=
  wpS_mono h (fun τ S k ι' H' σ' e' => k ι' H' σ' (e.trans e')) (fun v S k ι' H' x e' => k ι' H' x (e.trans e')) fun c p τ S k ι' H' σ' Ca d x e' => k ι' H' σ' Ca d x (e.trans e')
def gS (X : Cx) (W : WX) (m : SM) : TS := fun D σ H => ∃ ι τ S, RSt X.K X.mg ι H S ∧ REn X.K ι H τ σ ∧ PkS X W D ι H (m τ S)
structure RS (X : Cx) (W : WX) (st : Stmt) (m : SM) : Prop where
  ps : PS X st (gS X W m)
structure RSs (X : Cx) (W : WX) (st : List Stmt) (m : SM) : Prop where
  pss : PSs X st (gS X W m)
theorem ps_weak {st : Stmt} {t t' : TS} (h : PS X st t) (w : ∀ D σ H, t' D σ H → t D σ H) : PS X st t' := ⟨fun pins s σ H D I hh => h.run pins s σ H D I (w D σ H hh)⟩
theorem pss_weak {st : List Stmt} {t t' : TS} (h : PSs X st t) (w : ∀ D σ H, t' D σ H → t D σ H) : PSs X st t' := ⟨fun pins s σ H D I hh => h.run pins s σ H D I (w D σ H hh)⟩
/-- an expression's end, then a statement's -/
def bndS {α : Type} (o : Out α) (τ : En) (f : α → Sto → OS) : OS := match o with
  | .ok a S => f a S
  | .er c p S => .er c p τ S
  | .bad => .bad
@[simp] theorem bndS_ok {α : Type} (a : α) (S : Sto) (τ : En) (f : α → Sto → OS) : bndS (.ok a S) τ f = f a S := rfl
@[simp] theorem bndS_er {α : Type} (c : Str) (p : PV) (S : Sto) (τ : En) (f : α → Sto → OS) : bndS (.er c p S) τ f = .er c p τ S := rfl
@[simp] theorem bndS_bad {α : Type} (τ : En) (f : α → Sto → OS) : bndS (.bad : Out α) τ f = .bad := rfl
theorem wpS_bndS {α : Type} (o : Out α) (τ : En) (f : α → Sto → OS) (N : En → Sto → Prop) (T : PV → Sto → Prop) (R : Str → PV → En → Sto → Prop) : wpS (bndS o τ f) N T R = wp o (fun a S => wpS (f a S) N T R) (fun c p S => R c p τ S) := by
  cases o <;> rfl
theorem PkS.next {α β : Type} {R : RR α β} {D : Ends} {σ : L2.St} {ι : List Addr} {H : Hp} {τ : En} {o : Out α} {f : α → Sto → OS} (ρ : REn X.K ι H τ σ) (h : PkS X W D ι H (bndS o τ f)) :
    Pk X W R σ (fun x H1 => ∃ a ι1 S1, Ext ι H ι1 H1 ∧ RSt X.K X.mg ι1 H1 S1 ∧ R ι1 H1 a x ∧ PkS X W D ι1 H1 (f a S1)) ι H o := by
  unfold PkS at h
  rw [wpS_bndS] at h
  exact wp_mono h (fun a S k ι' H' x e r q => ⟨a, ι', S, e, r, q, PkS.up (o := f a S) k e⟩) fun c p S k ι' H' Ca d x e r m hd hp => k ι' H' σ Ca d x e r (ρ.up e) m hd hp
def nopS : SM := fun τ S => .nx τ S
def seqO (o : OS) (k : SM) : OS := match o with
  | .nx τ S => k τ S
  | o => o
@[simp] theorem seqO_nx (τ : En) (S : Sto) (k : SM) : seqO (.nx τ S) k = k τ S := rfl
@[simp] theorem seqO_rt (v : PV) (S : Sto) (k : SM) : seqO (.rt v S) k = .rt v S := rfl
@[simp] theorem seqO_er (c : Str) (p : PV) (τ : En) (S : Sto) (k : SM) : seqO (.er c p τ S) k = .er c p τ S := rfl
@[simp] theorem seqO_bad (k : SM) : seqO .bad k = .bad := rfl
theorem wpS_seqO (o : OS) (k : SM) (N : En → Sto → Prop) (T : PV → Sto → Prop) (R : Str → PV → En → Sto → Prop) : wpS (seqO o k) N T R = wpS o (fun τ S => wpS (k τ S) N T R) T R := by
  cases o <;> rfl
def seqS (s t : SM) : SM := fun τ S => seqO (s τ S) t
theorem rss_nil : RSs X W [] nopS := ⟨pss_weak pss_nil fun D σ H ⟨ι, τ, S, r, ρ, pk⟩ => pk ι H σ .refl r ρ⟩
theorem rss_cons {st : Stmt} {rest : List Stmt} {m k : SM} (h1 : RS X W st m) (h2 : RSs X W rest k) : RSs X W (st :: rest) (seqS m k) := by
  refine ⟨pss_weak (pss_cons h1.ps h2.pss) fun D σ H ⟨ι, τ, S, r, ρ, pk⟩ => ⟨ι, τ, S, r, ρ, ?_⟩⟩
  unfold PkS seqS at pk
  rw [wpS_seqO] at pk
  exact wpS_mono pk (fun τ' S' w ι' H' σ' e r' ρ' => ⟨ι', τ', S', r', ρ', PkS.up (o := k τ' S') w e⟩) (fun _ _ k => k) fun _ _ _ _ k => k
theorem rss_one {st : Stmt} {m : SM} (h1 : RS X W st m) : RSs X W [st] m := ⟨pss_one h1.ps⟩
theorem rs_pass : RS X W (.Pass pos) nopS := ⟨ps_weak ps_pass fun D σ H ⟨ι, τ, S, r, ρ, pk⟩ => pk ι H σ .refl r ρ⟩
theorem rs_doc {x j pos'} : RS X W (.Expr (.Constant (.str x) j pos) pos') nopS := ⟨ps_weak ps_doc fun D σ H ⟨ι, τ, S, r, ρ, pk⟩ => pk ι H σ .refl r ρ⟩
def neverS : SM := fun _ _ => .bad
theorem rs_never {st : Stmt} : RS X W st neverS := ⟨ps_weak ps_never fun D σ H ⟨ι, τ, S, r, ρ, pk⟩ => pk.elim⟩
def exprS (m : EM PV) : SM := fun τ S => bndS (m τ S) τ fun _ S1 => .nx τ S1
theorem rs_expr (he : RE X W e ma) (hs : swapsWith e none pos.line X.env = pure false := by rfl) : RS X W (.Expr e pos) (exprS ma) :=
  ⟨ps_weak (ps_expr he.pe hs) fun D σ H ⟨ι, τ, S, r, ρ, pk⟩ => ⟨ι, τ, S, r, ρ, (PkS.next (R := rV X) ρ pk).mono fun x H1 ⟨p, ι1, S1, e1, r1, q1, pk1⟩ => pk1 ι1 H1 σ .refl r1 (ρ.up e1)⟩⟩
def retS (m : EM PV) : SM := fun τ S => bndS (m τ S) τ fun v S1 => .rt v S1
theorem rs_ret (he : RE X W e ma) : RS X W (.Return (some e) pos) (retS ma) :=
  ⟨ps_weak (ps_ret he.pe) fun D σ H ⟨ι, τ, S, r, ρ, pk⟩ => ⟨ι, τ, S, r, ρ, (PkS.next (R := rV X) ρ pk).mono fun x H1 ⟨p, ι1, S1, e1, r1, q1, pk1⟩ => pk1 ι1 H1 x .refl r1 q1⟩⟩
def retN : SM := fun _ S => .rt .non S
theorem rs_retN : RS X W (.Return none pos) retN := ⟨ps_weak ps_retN fun D σ H ⟨ι, τ, S, r, ρ, pk⟩ => pk ι H .non .refl r rfl⟩
def ifS (c : EM Bool) (s t : SM) : SM := fun τ S => bndS (c τ S) τ fun k S1 => if k = true then s τ S1 else t τ S1
theorem rs_if {sa sb : List Stmt} {s t : SM} (hc : RT X W c tA) (ha : RSs X W sa s) (hb : RSs X W sb t) : RS X W (.If c sa sb pos) (ifS tA s t) := by
  refine ⟨ps_weak (ps_if hc.pt ha.pss hb.pss) fun D σ H ⟨ι, τ, S, r, ρ, pk⟩ => ⟨ι, τ, S, r, ρ, (PkS.next (R := rB) ρ pk).mono fun x H1 ⟨p, ι1, S1, e1, r1, q1, pk1⟩ => ?_⟩⟩
  have q1 : p = x := q1
  subst q1
  cases p with
  | true => exact ⟨ι1, τ, S1, r1, ρ.up e1, pk1⟩
  | false => exact ⟨ι1, τ, S1, r1, ρ.up e1, pk1⟩
/-! ### targets -/
abbrev GM := PV → En → Option En
abbrev GMs := List PV → En → Option En
/-- only the slots sl have changed -/
def Ch (sl : List Nat) (σ σ' : L2.St) : Prop := ∀ vs, (∀ i ∈ sl, i ∈ vs) → wipe σ' vs = wipe σ vs
theorem wipe_set {σ : L2.St} {i : Nat} {x : Option V} : ∀ {vs : List Nat}, i ∈ vs → wipe (σ.set i x) vs = wipe σ vs
  | v :: vs, h => by
    unfold wipe
    by_cases hm : i ∈ vs
    · rw [wipe_set hm]
    · have e : i = v := by
        rcases List.mem_cons.mp h with h | h
        · exact h
        · exact absurd h hm
      subst e
      have comm : ∀ ws : List Nat, i ∉ ws → wipe (σ.set i x) ws = (wipe σ ws).set i x := by
        intro ws
        induction ws with
        | nil => intro _; rfl
        | cons w ws ih =>
          intro hw
          unfold wipe
          rw [ih (fun z => hw (List.mem_cons_of_mem _ z)), List.set_comm _ _ (fun z => hw (by rw [z]; exact List.mem_cons_self))]
      rw [comm vs hm, List.set_set]
theorem Ch.one {σ : L2.St} {i : Nat} {x : Option V} : Ch [i] σ (σ.set i x) := fun vs h => wipe_set (h i (by simp))
theorem Ch.refl {σ : L2.St} : Ch [] σ σ := fun _ _ => rfl
theorem Ch.trans {s1 s2 : List Nat} {σ σ1 σ2 : L2.St} (a : Ch s1 σ σ1) (b : Ch s2 σ1 σ2) : Ch (s1 ++ s2) σ σ2 := fun vs h =>
  (b vs fun i hi => h i (List.mem_append_right _ hi)).trans (a vs fun i hi => h i (List.mem_append_left _ hi))
def gG (X : Cx) (g : GM) (sl : List Nat) : TG := fun v σ H Q => ∃ ι τ S p τ', RSt X.K X.mg ι H S ∧ REn X.K ι H τ σ ∧ Rp X.K ι H p v ∧ g p τ = some τ' ∧ ∀ σ', REn X.K ι H τ' σ' → Ch sl σ σ' → Q σ' H
def gGs (X : Cx) (g : GMs) (sl : List Nat) : TGs := fun vs σ H Q => ∃ ι τ S ps τ', RSt X.K X.mg ι H S ∧ REn X.K ι H τ σ ∧ RpL X.K ι H ps vs ∧ g ps τ = some τ' ∧ ∀ σ', REn X.K ι H τ' σ' → Ch sl σ σ' → Q σ' H
structure RG (X : Cx) (tg : Expr) (g : GM) (sl : List Nat) : Prop where
  pg : PG X tg (gG X g sl)
structure RGs (X : Cx) (tg : List Expr) (g : GMs) (sl : List Nat) : Prop where
  pgs : PGs X tg (gGs X g sl)
theorem pg_weak {tg : Expr} {t t' : TG} (h : PG X tg t) (w : ∀ v σ H Q, t' v σ H Q → t v σ H Q) : PG X tg t' := ⟨fun pins s σ H v u Q I r hh => h.run pins s σ H v u Q I r (w v σ H Q hh)⟩
theorem pgs_weak {tg : List Expr} {t t' : TGs} (h : PGs X tg t) (w : ∀ v σ H Q, t' v σ H Q → t v σ H Q) : PGs X tg t' := ⟨fun pins s σ H v u Q I r hh => h.run pins s σ H v u Q I r (w v σ H Q hh)⟩
def gN (i : Nat) : GM := fun p τ => some (τ.set i (some p))
def gsN : GMs := fun ps τ => match ps with | [] => some τ | _ => none
def gsC (g : GM) (h : GMs) : GMs := fun ps τ => match ps with | p :: r => (g p τ).bind fun τ1 => h r τ1 | _ => none
def gT (n : Nat) (g : GMs) : GM := fun p τ => match p with | .tup xs => if xs.length = n then g xs τ else none | _ => none
theorem rg_name (i : Nat) {x : Str} (hN : X.N.Nodup) (hi : X.N[i]? = some x) (hx : Loc X.env.scope x) (hf : X.fn x = true ∨ X.env.scope.names.lookup x = some .local := by first | exact .inl rfl | exact .inr rfl | assumption) : RG X (.Name x pos) (gN i) [i] :=
  ⟨pg_weak (pg_name hN hi hx hf) fun v σ H Q ⟨ι, τ, S, p, τ', r, ρ, q, e, k⟩ => by cases e; exact k _ (ρ.set i q) .one⟩
theorem rgs_nil : RGs X [] gsN [] := ⟨pgs_weak pgs_nil fun vs σ H Q ⟨ι, τ, S, ps, τ', r, ρ, q, e, k⟩ => by
  unfold gsN at e
  split at e
  · cases e; cases (show vs = _ from q); exact ⟨rfl, k _ ρ .refl⟩
  · cases e⟩
theorem rgs_cons {tg : Expr} {tgs : List Expr} {g : GM} {h : GMs} {s1 s2 : List Nat} (h1 : RG X tg g s1) (h2 : RGs X tgs h s2) (hs : (assignEach (tg :: tgs) X.env).map (·.2) = assign tg X.env :: (assignEach tgs X.env).map (·.2) := by rfl) : RGs X (tg :: tgs) (gsC g h) (s1 ++ s2) :=
  ⟨pgs_weak (pgs_cons h1.pg h2.pgs hs) fun vs σ H Q ⟨ι, τ, S, ps, τ', r, ρ, q, e, k⟩ => by
    unfold gsC at e
    split at e
    · rename_i p pr
      obtain ⟨v, w, rfl, q1, q2⟩ := q
      cases hg : g p τ with
      | none => rw [hg] at e; cases e
      | some τ1 =>
        rw [hg] at e
        exact ⟨v, w, rfl, ι, τ, S, p, τ1, r, ρ, q1, hg, fun σ1 ρ1 c1 => ⟨ι, τ1, S, pr, τ', r, ρ1, q2, e, fun σ2 ρ2 c2 => k σ2 ρ2 (c1.trans c2)⟩⟩
    · cases e⟩
theorem rg_tup {k n : Nat} {es : List Expr} {g : GMs} {sl : List Nat} (hc : X.calm = true) (h : RGs X es g sl) (hn : (assignEach es X.env).length = n := by rfl) (hst : (assignEach es X.env).findIdx? (·.1) = none := by rfl) : RG X (.Tuple es k pos) (gT n g) sl :=
  ⟨pg_weak (pg_tup hc h.pgs hn hst) fun v σ H Q ⟨ι, τ, S, p, τ', r, ρ, q, e, k⟩ => by
    unfold gT at e
    split at e
    · rename_i xs
      split at e
      · rename_i hl
        obtain ⟨a, vs, rfl, h1, h2⟩ := q
        exact ⟨a, vs, rfl, h1.seq, by rw [← h2.length]; exact hl, ι, τ, S, xs, τ', r, ρ, h2, e, k⟩
      · cases e
    · cases e⟩
def asgS (m : EM PV) (g : GM) : SM := fun τ S => bndS (m τ S) τ fun v S1 => match g v τ with | some τ1 => .nx τ1 S1 | none => .bad
theorem asg_read {g : GM} {sl : List Nat} (D : Ends) (σ : L2.St) (H : Hp) (h : gS X W (asgS ma g) D σ H) : tAsg (gE X W (rV X) ma) (gG X g sl) D σ H := by
  obtain ⟨ι, τ, S, r, ρ, pk⟩ := h
  refine ⟨ι, τ, S, r, ρ, (PkS.next (R := rV X) ρ pk).mono fun x H1 ⟨p, ι1, S1, e1, r1, q1, pk1⟩ => ?_⟩
  cases hg : g p τ with
  | none => rw [hg] at pk1; exact pk1.elim
  | some τ1 =>
    rw [hg] at pk1
    exact ⟨ι1, τ, S1, p, τ1, r1, ρ.up e1, q1, hg, fun σ' ρ' _ => pk1 ι1 H1 σ' .refl r1 ρ'⟩
theorem rs_asg {tg : Expr} {g : GM} {sl : List Nat} (he : RE X W e ma) (hg : RG X tg g sl) (hs : swapsWithSole [tg] e pos.line X.env = pure false := by rfl) (hw : swappedStores [tg] e X.env = pure none := by rfl)
    (h1 : (assignEach [tg] X.env).map (·.2) = [assign tg X.env] := by rfl) : RS X W (.Assign [tg] e pos) (asgS ma g) := ⟨ps_weak (ps_asg he.pe hg.pg hs hw h1) asg_read⟩
theorem rs_set (i : Nat) {x : Str} {pos' : Pos} (hN : X.N.Nodup) (hi : X.N[i]? = some x) (hx : Loc X.env.scope x) (he : RE X W e ma) (hs : swapsWith e (some (.Name x pos')) pos.line X.env = pure false := by rfl) (hf : X.fn x = true ∨ X.env.scope.names.lookup x = some .local := by first | exact .inl rfl | exact .inr rfl | assumption) :
    RS X W (.Assign [.Name x pos'] e pos) (asgS ma (gN i)) :=
  ⟨ps_weak (ps_set hN hi hx he.pe hs hf) fun D σ H h => by
    obtain ⟨ι, τ, S, r, ρ, pk⟩ := h
    refine ⟨ι, τ, S, r, ρ, (PkS.next (R := rV X) ρ pk).mono fun x H1 ⟨p, ι1, S1, e1, r1, q1, pk1⟩ => ?_⟩
    exact pk1 ι1 H1 _ .refl r1 ((ρ.up e1).set i q1)⟩
/-- o[i] = e of a list -/
def setP (o i v : PV) (S : Sto) : Option Sto := match o, i with
  | .loc l, .int k => match S[l]? with | some (.lst xs) => (ixN xs.length k).map fun j => S.set l (.lst (xs.set j v)) | _ => none
  | _, _ => none
def setS (m mo mi : EM PV) : SM := fun τ S => bndS (m τ S) τ fun v S1 => bndS (mo τ S1) τ fun o S2 => bndS (mi τ S2) τ fun i S3 => match setP o i v S3 with | some S4 => .nx τ S4 | none => .bad
theorem rs_sub {i : Expr} {mi : EM PV} {pos' : Pos} (he : RE X W e ma) (ho : RE X W o mo) (hi : RE X W i mi)
    (hs : swapsWithSole [.Subscript o i pos'] e pos.line X.env = pure false := by rfl) (hw : swappedStores [.Subscript o i pos'] e X.env = pure none := by rfl)
    (h1 : (assignEach [.Subscript o i pos'] X.env).map (·.2) = [assign (.Subscript o i pos') X.env] := by rfl)
    (ha : ∀ v, assign (.Subscript o i pos') X.env v = (do
      let ov ← holding [v] (eval o X.env)
      let iv ← holding [v, ov] (eval i X.env)
      standAt pos'
      holding [v, ov, iv] (setItem ov iv v)
      release [v, ov, iv] []) := by intro _; rfl) : RS X W (.Assign [.Subscript o i pos'] e pos) (setS ma mo mi) := by
  refine ⟨ps_weak (ps_asg he.pe (pg_sub ho.pe hi.pe set_list ha) hs hw h1) fun D σ H h => ?_⟩
  obtain ⟨ι, τ, S, r, ρ, pk⟩ := h
  refine ⟨ι, τ, S, r, ρ, (PkS.next (R := rV X) ρ pk).mono fun x H1 ⟨p, ι1, S1, e1, r1, q1, pk1⟩ => ?_⟩
  refine ⟨ι1, τ, S1, r1, ρ.up e1, (PkS.next (R := rV X) (ρ.up e1) pk1).mono fun y H2 ⟨q, ι2, S2, e2, r2, q2, pk2⟩ => ?_⟩
  refine ⟨ι2, τ, S2, r2, (ρ.up e1).up e2, (PkS.next (R := rV X) ((ρ.up e1).up e2) pk2).mono fun z H3 ⟨i, ι3, S3, e3, r3, q3, pk3⟩ => ?_⟩
  have ρ3 := ((ρ.up e1).up e2).up e3
  have q1 := (q1.up e2).up e3
  have q2 := q2.up e3
  unfold setP at pk3
  split at pk3
  · rename_i S4 hS
    split at hS
    · split at hS
      · rename_i xs eS
        obtain ⟨a, rfl, h1⟩ := q2
        cases (show z = _ from q3)
        obtain ⟨vs, h2, h3⟩ := r3.obj _ a _ h1 eS
        rw [h3.length] at hS
        obtain ⟨j, hj, rfl⟩ := Option.map_eq_some_iff.mp hS
        obtain ⟨E, r4⟩ := r3.wlst h1 (h3.set j q1)
        exact ⟨a, vs, _, j, rfl, rfl, h2, hj, pk3 _ _ _ E r4 (ρ3.up E)⟩
      · cases hS
    · cases hS
  · exact pk3.elim
/-- name += e -/
def augS (i : Nat) (f : Op2) (m : EM PV) : SM := fun τ S => match τ[i]? with
  | some (some x) => bndS (m τ S) τ fun y S1 => match f x y S1 with | some (z, S2) => .nx (τ.set i (some z)) S2 | none => .bad
  | _ => .bad
theorem rs_aug (i : Nat) {x : Str} {pos' : Pos} {op : Operator} {f : Op2} (hN : X.N.Nodup) (hi : X.N[i]? = some x) (hx : Loc X.env.scope x) (he : RE X W e ma) (ho : PIp X op (gOp X f)) (hf : X.fn x = true ∨ X.env.scope.names.lookup x = some .local := by first | exact .inl rfl | exact .inr rfl | assumption) :
    RS X W (.AugAssign (.Name x pos') op e pos) (augS i f ma) := by
  refine ⟨ps_weak (ps_aug hN hi hx he.pe ho hf) fun D σ H h => ?_⟩
  obtain ⟨ι, τ, S, r, ρ, pk⟩ := h
  unfold augS at pk
  cases hτ : τ[i]? with
  | none => rw [hτ] at pk; exact pk.elim
  | some ov =>
    cases ov with
    | none => rw [hτ] at pk; exact pk.elim
    | some p0 =>
      rw [hτ] at pk
      obtain ⟨x0, h1, h2⟩ := ρ.get hτ
      refine ⟨x0, h1, ι, τ, S, r, ρ, (PkS.next (R := rV X) ρ pk).mono fun y H1 ⟨p, ι1, S1, e1, r1, q1, pk1⟩ => ?_⟩
      cases hf : f p0 p S1 with
      | none => rw [hf] at pk1; exact pk1.elim
      | some zz =>
        obtain ⟨z, S2⟩ := zz
        rw [hf] at pk1
        exact ⟨ι1, S1, p0, p, z, S2, r1, h2.up e1, q1, hf, fun ι' H' w e' r' q' => pk1 _ _ _ e' r' (((ρ.up e1).up e').set i q')⟩
end
end PL
/-! PLH: iterables, for, while, comprehensions. -/
namespace PL
open PySem PySem.Spec PyProof.Rows L2
open Classical in
/-- what is walked: its items, the lists of the store that must stand meanwhile -/
structure Wk where
  items : List PV
  g : List (Nat × List PV) := []
def Wk.ok (t : Wk) (S : Sto) : Prop := ∀ p ∈ t.g, S[p.1]? = some (.lst p.2)
section
variable {X : Cx} {W : WX} {a b c e o tg iter : Expr} {es rest : List Expr} {ma mb mc mo : EM PV} {tA tB' : EM Bool} {mas : EM (List PV)} {pos apos cpos p2 : Pos}
def ItOk (X : Cx) : RR Wk It := fun ι H t J => ∀ (i : Nat) ι2 H2 S2, ExtW ι H ι2 H2 → RSt X.K X.mg ι2 H2 S2 → t.ok S2 →
  (i < t.items.length → J.go i H2 ∧ ∀ x H3, J.yld i H2 x H3 → ∃ p, t.items[i]? = some p ∧ Ext ι2 H2 ι2 H3 ∧ RSt X.K X.mg ι2 H3 S2 ∧ Rp X.K ι2 H3 p x) ∧ (t.items.length ≤ i → J.stop i H2)
structure RI (X : Cx) (W : WX) (tg iter : Expr) (m : EM Wk) : Prop where
  pi : PI X tg iter (gE X W (ItOk X) m)
theorem pi_weak {t t' : TI} (h : PI X tg iter t) (w : ∀ σ H R, t' σ H R → t σ H R) : PI X tg iter t' := ⟨fun pins s σ H R I hh => h.run pins s σ H R I (w σ H R hh)⟩
/-- a list, a tuple, a text -/
def itrP (p : PV) (S : Sto) : Option Wk := match p with
  | .tup xs => some ⟨xs, []⟩
  | .fls xs => some ⟨xs, []⟩
  | .str x => some ⟨x.cps.toList.map fun c => .str ⟨#[c]⟩, []⟩
  | .loc l => match S[l]? with | some (.lst xs) => some ⟨xs, [(l, xs)]⟩ | _ => none
  | _ => none
def seqM (m : EM PV) : EM Wk := fun τ S => bnd (m τ S) fun p S1 => match itrP p S1 with | some t => .ok t S1 | none => .bad
/-- what such a value is, walked -/
def iAny (K : PySem.W.Frag) (tl : TE) : TI := fun σ H R => tl σ H fun x H1 =>
  (∃ a, x = .ref a ∧ (∃ xs, SqL K H1 a xs) ∧ R (Itl K a) H1) ∨ (∃ a, x = .ref a ∧ (∃ xs, SqT K H1 a xs) ∧ R (Itt K a) H1) ∨ ∃ z, x = .str z ∧ R (Its z) H1
theorem pi_any {l : Expr} {tl : TE} (hl : PE X l tl) : PI X tg l (iAny X.K tl) := by
  refine ⟨fun pins s σ H R I h => ?_⟩
  refine thn (hl.run pins s σ H _ I h) fun v s1 ⟨x, H1, I1, r1, q1⟩ => ?_
  rcases q1 with ⟨a, e, ⟨xs, hq⟩, q⟩ | ⟨a, e, ⟨xs, hq⟩, q⟩ | ⟨z, e, q⟩
  · subst e
    cases r1
    obtain ⟨its, rv, p, hz⟩ := I1.list hq
    refine wpAny_pyIter_list p.isList ?_
    refine ⟨s1.heap.objs.size, [s1.heap.objs.size], _, _, H1, rfl, I1.kept (t' := s1.toks) fun b o e => Heap.get?_push_of_some _ e, turn_list a _, ⟨_, Heap.get?_push_size _ rfl, rfl, rfl⟩, fun b hb => ?_, q⟩
    have e : b = s1.heap.objs.size := by simpa using hb
    subst e
    exact I1.fpOk (Nat.le_refl _) (I1.hok.fresh (Nat.le_refl _))
  · subst e
    cases r1
    obtain ⟨its, rv, p, hz⟩ := I1.tuple hq
    refine wpAny_pyIter_tuple (show s1.heap.IsTuple a its.toArray from p) ?_
    refine ⟨s1.heap.objs.size, [s1.heap.objs.size], _, _, H1, rfl, I1.kept (t' := s1.toks) fun b o e => Heap.get?_push_of_some _ e, turn_tuple a _, ⟨_, Heap.get?_push_size _ rfl, rfl, rfl⟩, fun b hb => ?_, q⟩
    have e : b = s1.heap.objs.size := by simpa using hb
    subst e
    exact I1.fpOk (Nat.le_refl _) (I1.hok.fresh (Nat.le_refl _))
  · subst e
    obtain ⟨t, rfl⟩ := r1
    cases ha : z.cps.all (· < 128)
    · exact wpAny_pyIter_wide ha (pi_one (tk := s1.toks) I1 _ (turn_str _ z t "str_iterator" (.inr rfl)) ⟨_, Heap.get?_push_size _ rfl, rfl, rfl⟩ q)
    · exact wpAny_pyIter_ascii ha (pi_one (tk := s1.toks) I1 _ (turn_str _ z t "str_ascii_iterator" (.inl rfl)) ⟨_, Heap.get?_push_size _ rfl, rfl, rfl⟩ q)
theorem sql_inj {K : PySem.W.Frag} {H : Hp} {a : Addr} {xs ys : List V} (h : H a = some (.lst xs)) (h' : SqL K H a ys) (hk : K.lookup a = none) : ys = xs := by
  rcases h' with (h' | ⟨o, h'⟩) | ⟨o, its, n, h', _⟩
  · rw [h] at h'; cases h'; rfl
  · rw [h] at h'; cases h'
  · rw [hk] at h'; cases h'
theorem get_len {α : Type} {xs : List α} {i : Nat} (h : i < xs.length) : ∃ x, xs[i]? = some x := ⟨xs[i], List.getElem?_eq_getElem h⟩
theorem itr_ok {ι : List Addr} {H : Hp} {S : Sto} {p : PV} {x : V} {t : Wk} {R : It → Hp → Prop} (rs : RSt X.K X.mg ι H S) (rp : Rp X.K ι H p x) (h : itrP p S = some t) (k : ∀ J, ItOk X ι H t J → R J H) :
    (∃ a, x = .ref a ∧ (∃ xs, SqL X.K H a xs) ∧ R (Itl X.K a) H) ∨ (∃ a, x = .ref a ∧ (∃ xs, SqT X.K H a xs) ∧ R (Itt X.K a) H) ∨ ∃ z, x = .str z ∧ R (Its z) H := by
  unfold itrP at h
  split at h
  · rename_i xs
    cases h
    obtain ⟨a, vs, rfl, h1, h2⟩ := rp
    refine .inr (.inl ⟨a, rfl, ⟨vs, h1.seq⟩, k _ fun i ι2 H2 S2 e r2 _ => ⟨fun hi => ?_, fun hi => ?_⟩⟩)
    · have hi : i < xs.length := hi
      obtain ⟨p, hp⟩ := get_len hi
      obtain ⟨v, hv, rv⟩ := h2.get hp
      exact ⟨⟨vs, v, (h1.upW e).seq, hv⟩, fun x H3 hy => by
        obtain ⟨rfl, hf⟩ := hy
        have e1 := hf vs (h1.upW e).seq
        rw [hv] at e1; cases e1
        exact ⟨p, hp, .refl, r2, Rp.upW e _ _ rv⟩⟩
    · exact ⟨vs, (h1.upW e).seq, by rw [← h2.length]; exact hi⟩
  · rename_i xs
    cases h
    obtain ⟨a, vs, rfl, h1, h2⟩ := rp
    refine .inl ⟨a, rfl, ⟨vs, h1.seq⟩, k _ fun i ι2 H2 S2 e r2 _ => ⟨fun hi => ?_, fun hi => ?_⟩⟩
    · have hi : i < xs.length := hi
      obtain ⟨p, hp⟩ := get_len hi
      obtain ⟨v, hv, rv⟩ := h2.get hp
      exact ⟨⟨vs, v, (h1.upW e).seq, hv⟩, fun x H3 hy => by
        obtain ⟨rfl, hf⟩ := hy
        have e1 := hf vs (h1.upW e).seq
        rw [hv] at e1; cases e1
        exact ⟨p, hp, .refl, r2, Rp.upW e _ _ rv⟩⟩
    · exact ⟨vs, (h1.upW e).seq, by rw [← h2.length]; exact hi⟩
  · rename_i z
    cases h
    cases (show x = _ from rp)
    refine .inr (.inr ⟨z, rfl, k _ fun i ι2 H2 S2 e r2 _ => ⟨fun hi => ?_, fun hi => ?_⟩⟩)
    · have hi' : i < z.cps.size := by simpa using hi
      exact ⟨hi', fun x H3 hy => by
        obtain ⟨rfl, c, hc, rfl⟩ := hy
        exact ⟨.str ⟨#[c]⟩, by simp [hc], .refl, r2, rfl⟩⟩
    · show z.cps.size ≤ i
      simpa using hi
  · split at h
    · rename_i l _ xs eS
      cases h
      obtain ⟨a, rfl, h1⟩ := rp
      obtain ⟨vs0, h2, h3⟩ := rs.obj _ a _ h1 eS
      refine .inl ⟨a, rfl, ⟨vs0, .of h2⟩, k _ fun i ι2 H2 S2 e r2 ok => ?_⟩
      have hS2 : S2[l]? = some (.lst xs) := ok (l, xs) (by simp)
      obtain ⟨vs, h4, h5⟩ := r2.obj l a _ (e.pre l a h1) hS2
      refine ⟨fun hi => ?_, fun hi => ?_⟩
      · have hi : i < xs.length := hi
        obtain ⟨p, hp⟩ := get_len hi
        obtain ⟨v, hv, rv⟩ := h5.get hp
        exact ⟨⟨vs, v, .of h4, hv⟩, fun x H3 hy => by
          obtain ⟨rfl, hf⟩ := hy
          have e1 := hf vs (.of h4)
          rw [hv] at e1; cases e1
          exact ⟨p, hp, .refl, r2, rv⟩⟩
      · exact ⟨vs, .of h4, by rw [← h5.length]; exact hi⟩
    · cases h
  · cases h
theorem ri_seq (h : RE X W iter ma) : RI X W tg iter (seqM ma) := ⟨pi_weak (pi_any h.pe) fun σ H R hh => by
  obtain ⟨ι, τ, S, r, ρ, pk⟩ := hh
  refine ⟨ι, τ, S, r, ρ, pk.next.mono fun x H1 ⟨p, ι1, S1, e1, r1, q1, pk1⟩ => ?_⟩
  cases ht : itrP p S1 with
  | none => rw [ht] at pk1; exact pk1.elim
  | some t =>
    rw [ht] at pk1
    exact itr_ok r1 q1 ht fun J hJ => pk1 ι1 H1 J .refl r1 hJ⟩
/-- range(n), range(a, b) -/
def rngI (lo hi : Int) : List PV := (List.range (hi - lo).toNat).map fun (i : Nat) => PV.int (lo + (i : Int))
theorem rngI_len (lo hi : Int) : (rngI lo hi).length = (hi - lo).toNat := by unfold rngI; simp
def rngOk (i : Int) : Prop := -4611686018427387904 ≤ i ∧ i < 4611686018427387904
noncomputable instance (i : Int) : Decidable (rngOk i) := Classical.propDecidable _
noncomputable def rng1M (m : EM PV) : EM Wk := fun τ S => bnd (m τ S) fun p S1 => match p with | .int n => if rngOk n then .ok ⟨rngI 0 n, []⟩ S1 else .bad | _ => .bad
noncomputable def rng2M (m m' : EM PV) : EM Wk := fun τ S => bnd (m τ S) fun p S1 => bnd (m' τ S1) fun q S2 => match p, q with | .int a, .int b => if rngOk a ∧ rngOk b then .ok ⟨rngI a b, []⟩ S2 else .bad | _, _ => .bad
theorem rng_ok {ι : List Addr} {H : Hp} {lo hi : Int} : ItOk X ι H ⟨rngI lo hi, []⟩ (L2.Itr lo (hi - lo).toNat) := fun i ι2 H2 S2 e r2 _ => by
  rw [show ({ items := rngI lo hi, g := [] } : Wk).items.length = (hi - lo).toNat from rngI_len lo hi]
  refine ⟨fun hi' => ⟨hi', fun x H3 hy => ?_⟩, fun h => h⟩
  obtain ⟨rfl, rfl⟩ := hy
  refine ⟨.int (lo + i), ?_, .refl, r2, rfl⟩
  show (rngI lo hi)[i]? = _
  unfold rngI
  rw [List.getElem?_map, List.getElem?_range hi']; rfl
theorem ri_range1 {p : Pos} (hg : Gl X "range") (hm : X.mg "range" = none) (ha : RE X W a ma) (hs : starEach [a] X.env = [(false, eval a X.env)] := by rfl) : RI X W tg (.Call (.Name "range" p) [a] [] pos) (rng1M ma) :=
  ⟨pi_weak (pi_range1 hg hm (pa_cons ha.pe pa_nil hs) hs) fun σ H R hh => by
    obtain ⟨ι, τ, S, r, ρ, pk⟩ := hh
    refine ⟨ι, τ, S, r, ρ, pk.next.mono fun x H1 ⟨p, ι1, S1, e1, r1, q1, pk1⟩ => ?_⟩
    cases p with
    | int n =>
      simp only at pk1
      split at pk1
      · rename_i hn
        obtain ⟨h1, h2⟩ := hn
        cases (show x = _ from q1)
        refine ⟨n, rfl, by omega, by omega, pk1 ι1 H1 _ .refl r1 ?_⟩
        have := @rng_ok X ι1 H1 0 n
        rw [Int.sub_zero] at this
        exact this
      · exact pk1.elim
    | _ => exact pk1.elim⟩
theorem ri_range2 {p : Pos} (hg : Gl X "range") (hm : X.mg "range" = none) (ha : RE X W a ma) (hb : RE X W b mb) (hs : starEach [a, b] X.env = [(false, eval a X.env), (false, eval b X.env)] := by rfl) (hs2 : starEach [b] X.env = [(false, eval b X.env)] := by rfl) : RI X W tg (.Call (.Name "range" p) [a, b] [] pos) (rng2M ma mb) :=
  ⟨pi_weak (pi_range2 hg hm (pa_cons ha.pe (pa_cons hb.pe pa_nil hs2) (by rw [hs, hs2])) hs hs2) fun σ H R hh => by
    obtain ⟨ι, τ, S, r, ρ, pk⟩ := hh
    refine ⟨ι, τ, S, r, ρ, pk.next.mono fun x H1 ⟨p, ι1, S1, e1, r1, q1, pk1⟩ => ?_⟩
    refine ⟨ι1, τ, S1, r1, ρ.up e1, pk1.next.mono fun y H2 ⟨q, ι2, S2, e2, r2, q2, pk2⟩ => ?_⟩
    split at pk2
    · split at pk2
      · rename_i hn
        obtain ⟨⟨h1, h2⟩, h3, h4⟩ := hn
        cases (show x = _ from q1)
        cases (show y = _ from q2)
        exact ⟨_, _, rfl, ⟨by omega, by omega, by omega, by omega⟩, pk2 ι2 H2 _ .refl r2 rng_ok⟩
      · exact pk2.elim
    · exact pk2.elim⟩
/-- enumerate(xs) of a list -/
def enumI (xs : List PV) : List PV := (xs.zipIdx).map fun p => .tup [.int (p.2 : Nat), p.1]
def enumM (m : EM PV) : EM Wk := fun τ S => bnd (m τ S) fun p S1 => match p with
  | .fls xs => .ok ⟨enumI xs, []⟩ S1
  | .loc l => match S1[l]? with | some (.lst xs) => .ok ⟨enumI xs, [(l, xs)]⟩ S1 | _ => .bad
  | _ => .bad
theorem enumI_at {xs : List PV} {i : Nat} {x : PV} (h : xs[i]? = some x) : (enumI xs)[i]? = some (.tup [.int (i : Nat), x]) := by
  unfold enumI
  rw [List.getElem?_map, List.getElem?_zipIdx, h]
  simp
theorem ri_enum {k : Nat} {elts : List Expr} {p tpos : Pos} (hg : Gl X "enumerate") (hm : X.mg "enumerate" = none) (ha : RE X W a ma) (hs : starEach [a] X.env = [(false, eval a X.env)] := by rfl) : RI X W (.Tuple elts k tpos) (.Call (.Name "enumerate" p) [a] [] pos) (enumM ma) :=
  ⟨pi_weak (PLz.pi_enumZ hg hm (pa_cons ha.pe pa_nil hs) hs) fun σ H R hh => by
    obtain ⟨ι, τ, S, r, ρ, pk⟩ := hh
    refine ⟨ι, τ, S, r, ρ, pk.next.mono fun x H1 ⟨p, ι1, S1, e1, r1, q1, pk1⟩ => ?_⟩
    have go : ∀ (a : Addr) (xs : List PV) (g : List (Nat × List PV)) (vs0 : List V), x = .ref a → SqL X.K H1 a vs0 → (∀ ι2 H2 S2, ExtW ι1 H1 ι2 H2 → RSt X.K X.mg ι2 H2 S2 → Wk.ok ⟨enumI xs, g⟩ S2 → ∃ vs, SqL X.K H2 a vs ∧ RpL X.K ι2 H2 xs vs) →
        (∀ J, ItOk X ι1 H1 ⟨enumI xs, g⟩ J → R J H1) → ∃ a xs, [x] = [V.ref a] ∧ SqL X.K H1 a xs ∧ R (PLz.Itez X.K a) H1 := by
      intro a xs g vs0 ex h0 st k
      refine ⟨a, vs0, by rw [ex], h0, k _ fun i ι2 H2 S2 e r2 ok => ?_⟩
      obtain ⟨vs, h2, h3⟩ := st ι2 H2 S2 e r2 ok
      have hlen : ({ items := enumI xs, g := g } : Wk).items.length = xs.length := by show (enumI xs).length = _; unfold enumI; simp
      rw [hlen]
      refine ⟨fun hi => ?_, fun hi => ⟨vs, h2, by rw [← h3.length]; exact hi⟩⟩
      obtain ⟨p, hp⟩ := get_len hi
      obtain ⟨v, hv, rv⟩ := h3.get hp
      refine ⟨⟨vs, v, h2, hv⟩, fun x H3 hy => ?_⟩
      obtain ⟨T, y, o, rfl, hT, ho, rfl, hf⟩ := hy
      have e1 := hf vs h2
      rw [hv] at e1; cases e1
      obtain ⟨E, r3⟩ := r2.tup (ho := .frz o (.tup [.int (i : Nat), v])) hT
      exact ⟨_, enumI_at hp, E, r3, T, _, rfl, .inl ⟨o, upd_same, ho⟩, ⟨.int (i : Nat), [v], rfl, rfl, v, [], rfl, rv.up E, rfl⟩⟩
    split at pk1
    · rename_i xs
      obtain ⟨a, vs, ex, h1, h2⟩ := q1
      exact go a xs [] vs ex h1.seq (fun ι2 H2 S2 e r2 _ => ⟨vs, (h1.upW e).seq, RpL.upW e _ _ h2⟩) fun J hJ => pk1 ι1 H1 J .refl r1 hJ
    · rename_i l
      split at pk1
      · rename_i xs eS
        obtain ⟨a, ex, h1⟩ := q1
        obtain ⟨vs, h2, h3⟩ := r1.obj _ a _ h1 eS
        exact go a xs _ vs ex (.of h2) (fun ι2 H2 S2 e r2 ok => by
          obtain ⟨vs', h4, h5⟩ := r2.obj l a _ (e.pre l a h1) (ok (l, xs) (by simp))
          exact ⟨vs', .of h4, h5⟩) fun J hJ => pk1 ι1 H1 J .refl r1 hJ
      · exact pk1.elim
    · exact pk1.elim⟩
/-! ### for -/
open Classical in
noncomputable def forL (t : Wk) (g : GM) (b : SM) : List PV → SM
  | [] => fun τ S => if t.ok S then .nx τ S else .bad
  | p :: r => fun τ S => if t.ok S then (match g p τ with | some τ1 => seqO (b τ1 S) (forL t g b r) | none => .bad) else .bad
noncomputable def forS (m : EM Wk) (g : GM) (b : SM) : SM := fun τ S => bndS (m τ S) τ fun t S1 => forL t g b t.items τ S1
theorem drop_of_get {α : Type} {xs : List α} {i : Nat} {x : α} (h : xs[i]? = some x) : xs.drop i = x :: xs.drop (i + 1) := by
  obtain ⟨hl, e⟩ := List.getElem?_eq_some_iff.mp h
  rw [List.drop_eq_getElem_cons hl, e]
theorem rs_for {m : EM Wk} {g : GM} {sl : List Nat} {b : SM} {body : List Stmt} (hp : PassesOwn (model X.prog X.w) X.A X.env X.xe) (hc : X.calm = true) (hi : RI X W tg iter m) (hg : RG X tg g sl) (hb : RSs X W body b)
    (hs : ∀ x, foldedSetIterable iter X.env x = pure x := by intro _; rfl) : RS X W (.For tg iter body [] pos) (forS m g b) := by
  refine ⟨ps_weak (ps_for hp hc hi.pi hg.pg hb.pss hs) fun D σ H ⟨ι, τ, S, r, ρ, pk⟩ => ⟨ι, τ, S, r, ρ, (PkS.next (R := ItOk X) ρ pk).mono ?_⟩⟩
  rintro J H1 ⟨t, ι1, S1, e1, r1, q1, pk1⟩
  refine ⟨fun i n σ H => ∃ ι τ S, Ext ι1 H1 ι H ∧ RSt X.K X.mg ι H S ∧ REn X.K ι H τ σ ∧ n = t.items.length - i ∧ i ≤ t.items.length ∧ PkS X W D ι H (forL t g b (t.items.drop i) τ S),
    ⟨t.items.length, ι1, τ, S1, .refl, r1, ρ.up e1, by simp, Nat.zero_le _, by rw [List.drop_zero]; exact pk1⟩, ?_⟩
  rintro i n σ2 H2 ⟨ι2, τ2, S2, e2, r2, ρ2, hn, hle, pk2⟩
  by_cases hlt : i < t.items.length
  · obtain ⟨p, hp⟩ := get_len hlt
    rw [drop_of_get hp] at pk2
    unfold forL at pk2
    split at pk2
    · rename_i ok
      obtain ⟨go, step⟩ := (q1 i ι2 H2 S2 e2.w r2 ok).1 hlt
      cases hgp : g p τ2 with
      | none => rw [hgp] at pk2; exact pk2.elim
      | some τ3 =>
        rw [hgp] at pk2
        unfold PkS at pk2
        rw [wpS_seqO] at pk2
        refine .inr ⟨go, fun σ' H' => ∃ ι τ S, Ext ι1 H1 ι H' ∧ RSt X.K X.mg ι H' S ∧ REn X.K ι H' τ σ' ∧ PkS X W D ι H' (forL t g b (t.items.drop (i + 1)) τ S), fun σ' H' ⟨ι', τ', S', e', r', ρ', pk'⟩ => ⟨n - 1, by omega, ι', τ', S', e', r', ρ', by omega, by omega, pk'⟩, fun x H3 hy => ?_⟩
        obtain ⟨p', hp', E3, r3, rv3⟩ := step x H3 hy
        rw [hp] at hp'; cases hp'
        refine ⟨ι2, τ2, S2, p, τ3, r3, ρ2.up E3, rv3, hgp, fun σ3 ρ3 _ => ⟨ι2, τ3, S2, r3, ρ3, ?_⟩⟩
        exact wpS_mono pk2 (fun τ' S' w ι' H' σ' e' r' ρ' => ⟨ι', τ', S', e2.trans (E3.trans e'), r', ρ', PkS.up (o := forL t g b (t.items.drop (i + 1)) τ' S') w (E3.trans e')⟩)
          (fun v S' k ι' H' x e' => k ι' H' x (E3.trans e')) fun c p τ S k ι' H' σ' Ca d x e' => k ι' H' σ' Ca d x (E3.trans e')
    · exact pk2.elim
  · have hi' : i = t.items.length := by omega
    rw [hi', List.drop_length] at pk2
    unfold forL at pk2
    split at pk2
    · rename_i ok
      exact .inl ⟨(q1 i ι2 H2 S2 e2.w r2 ok).2 (by omega), pk2 ι2 H2 σ2 .refl r2 ρ2⟩
    · exact pk2.elim
/-! ### while -/
def whileN (c : EM Bool) (b : SM) : Nat → SM
  | 0 => fun _ _ => .bad
  | n + 1 => fun τ S => bndS (c τ S) τ fun k S1 => if k = true then seqO (b τ S1) (whileN c b n) else .nx τ S1
open Classical in
noncomputable def whileS (c : EM Bool) (b : SM) : SM := fun τ S => if h : ∃ n, whileN c b n τ S ≠ .bad then whileN c b (choose h) τ S else .bad
theorem rs_while {b : SM} {body : List Stmt} (hp : PassesOwn (model X.prog X.w) X.A X.env X.xe) (hc : RT X W c tA) (hb : RSs X W body b) : RS X W (.While c body [] pos) (whileS tA b) := by
  refine ⟨ps_weak (ps_while hp hc.pt hb.pss) fun D σ H ⟨ι, τ, S, r, ρ, pk⟩ => ?_⟩
  have hN : ∃ n, PkS X W D ι H (whileN tA b n τ S) := by
    unfold whileS at pk
    split at pk
    · exact ⟨_, pk⟩
    · exact pk.elim
  refine ⟨fun n σ H => ∃ ι τ S, RSt X.K X.mg ι H S ∧ REn X.K ι H τ σ ∧ PkS X W D ι H (whileN tA b n τ S), (let ⟨n, h⟩ := hN; ⟨n, ι, τ, S, r, ρ, h⟩), ?_⟩
  rintro n σ1 H1 ⟨ι1, τ1, S1, r1, ρ1, pk1⟩
  cases n with
  | zero => exact pk1.elim
  | succ n =>
    refine ⟨ι1, τ1, S1, r1, ρ1, (PkS.next (R := rB) ρ1 pk1).mono ?_⟩
    rintro k H2 ⟨k', ι2, S2, e2, r2, q2, pk2⟩
    have q2 : k' = k := q2
    subst q2
    cases k' with
    | false => exact pk2 ι2 H2 σ1 .refl r2 (ρ1.up e2)
    | true =>
      rw [if_pos rfl] at pk2 ⊢
      unfold PkS at pk2
      rw [wpS_seqO] at pk2
      refine ⟨fun σ' H' => ∃ ι τ S, RSt X.K X.mg ι H' S ∧ REn X.K ι H' τ σ' ∧ PkS X W D ι H' (whileN tA b n τ S), fun σ' H' h => ⟨n, Nat.lt_succ_self n, h⟩, ι2, τ1, S2, r2, ρ1.up e2, ?_⟩
      exact wpS_mono pk2 (fun τ' S' w ι' H' σ' e' r' ρ' => ⟨ι', τ', S', r', ρ', PkS.up (o := whileN tA b n τ' S') w e'⟩) (fun _ _ k => k) fun _ _ _ _ k => k
/-! ### comprehensions -/
def wipeE (τ : En) : List Nat → En
  | [] => τ
  | v :: vs => (wipeE τ vs).set v none
theorem REn.wipe {K : PySem.W.Frag} {ι : List Addr} {H : Hp} {τ : En} {σ : L2.St} (h : REn K ι H τ σ) : ∀ vs, REn K ι H (wipeE τ vs) (wipe σ vs)
  | [] => h
  | v :: vs => (REn.wipe h vs).unset v
structure RTs (X : Cx) (W : WX) (ifs : List Expr) (m : EM Bool) : Prop where
  pts : PTs X ifs (gE X W rB m)
def yesM : EM Bool := fun _ S => .ok true S
theorem pts_weak {ifs : List Expr} {t t' : TT} (h : PTs X ifs t) (w : ∀ σ H Q, t' σ H Q → t σ H Q) : PTs X ifs t' := ⟨fun pins s σ H Q I hh => h.run pins s σ H Q I (w σ H Q hh)⟩
theorem rts_nil : RTs X W [] yesM := ⟨pts_weak pts_nil fun σ H Q ⟨ι, τ, S, r, ρ, pk⟩ => pk ι H true .refl r rfl⟩
theorem rts_one (h : RT X W c tA) : RTs X W [c] tA := ⟨pts_one h.pt⟩
/-- within a comprehension nothing is let out -/
abbrev W0 : WX := fun _ _ _ _ => False
def noEr {α : Type} (o : Out α) : Out α := match o with
  | .ok a S => .ok a S
  | _ => .bad
@[simp] theorem noEr_ok {α : Type} (a : α) (S : Sto) : noEr (.ok a S) = .ok a S := rfl
@[simp] theorem noEr_bad {α : Type} : noEr (.bad : Out α) = .bad := rfl
@[simp] theorem noEr_er {α : Type} (c : Str) (p : PV) (S : Sto) : noEr (.er c p S : Out α) = .bad := rfl
theorem pk_noEr {α β : Type} {R : RR α β} {σ : L2.St} {Q : β → Hp → Prop} {ι : List Addr} {H : Hp} {o : Out α} (h : Pk X W R σ Q ι H (noEr o)) : Pk X W0 R σ Q ι H o := by
  cases o with
  | ok a S => exact h
  | _ => exact h.elim
theorem wipe_wipe {σ : L2.St} : ∀ vs : List Nat, wipe (wipe σ vs) vs = wipe σ vs := by
  have set_wipe : ∀ (ws : List Nat) (σ : L2.St) (i : Nat), wipe (σ.set i none) ws = (wipe σ ws).set i none := by
    intro ws
    induction ws with
    | nil => intro σ i; rfl
    | cons w ws ih =>
      intro σ i
      unfold wipe
      rw [ih]
      by_cases e : i = w
      · subst e; rfl
      · rw [List.set_comm _ _ e]
  intro vs
  induction vs with
  | nil => rfl
  | cons v vs ih =>
    show (wipe ((wipe σ vs).set v none) vs).set v none = _
    rw [set_wipe, ih, List.set_set]
    rfl
def stepE (tt : EM Bool) (el : EM PV) : List PV → En → Sto → Out (List PV) := fun acc τ S => bnd (noEr (tt τ S)) fun k S1 =>
  if k = true then bnd (noEr (el τ S1)) fun y S2 => if acc.length < 16777216 then .ok (acc ++ [y]) S2 else .bad else .ok acc S1
open Classical in
noncomputable def accL (t : Wk) (g : GM) (step : List PV → En → Sto → Out (List PV)) : List PV → List PV → En → Sto → Out (List PV)
  | acc, [] => fun _ S => if t.ok S then .ok acc S else .bad
  | acc, p :: r => fun τ S => if t.ok S then (match g p τ with | some τ1 => bnd (step acc τ1 S) fun acc' S1 => accL t g step acc' r τ S1 | none => .bad) else .bad
open Classical in
theorem accL_cons (t : Wk) (g : GM) (step : List PV → En → Sto → Out (List PV)) (acc : List PV) (p : PV) (r : List PV) (τ : En) (S : Sto) : accL t g step acc (p :: r) τ S =
    if t.ok S then (match g p τ with | some τ1 => bnd (step acc τ1 S) fun acc' S1 => accL t g step acc' r τ S1 | none => .bad) else .bad := rfl
open Classical in
theorem accL_nil (t : Wk) (g : GM) (step : List PV → En → Sto → Out (List PV)) (acc : List PV) (τ : En) (S : Sto) : accL t g step acc [] τ S = if t.ok S then .ok acc S else .bad := rfl
def newL (o : Out (List PV)) : Out PV := bnd o fun acc S => .ok (.loc S.length) (S ++ [.lst acc])
noncomputable def compM (m : EM Wk) (g : GM) (tt : EM Bool) (el : EM PV) (vs : List Nat) : EM PV := fun τ S => bnd (m τ S) fun t S1 => newL (accL t g (stepE tt el) [] t.items (wipeE τ vs) S1)
/-- the list at D, not ours yet -/
structure Dl (K : PySem.W.Frag) (ι : List Addr) (H : Hp) (D : Addr) (acc : List PV) : Prop where
  nin : D ∉ ι
  obj : ∃ vs, H D = some (.lst vs) ∧ RpL K ι H acc vs
theorem Dl.up {ι ι' : List Addr} {H H' : Hp} {D : Addr} {acc : List PV} (d : Dl X.K ι H D acc) (e : Ext ι H ι' H') : Dl X.K ι' H' D acc := by
  obtain ⟨vs, h1, h2⟩ := d.obj
  refine ⟨fun hm => ?_, vs, e.fr D _ h1 d.nin, h2.up e⟩
  rcases e.new D hm with q | q
  · exact d.nin q
  · rw [h1] at q; cases q
theorem extW_upd {ι : List Addr} {H : Hp} {vs ws : List V} (h : H D = some (.lst vs)) : ExtW ι H ι (upd H D (.lst ws)) :=
  ⟨fun _ _ h => h, fun a xs e => by rw [upd_ne (fun z => by subst z; rw [h] at e; cases e)]; exact e, fun a o u e => by rw [upd_ne (fun z => by subst z; rw [h] at e; cases e)]; exact e⟩
/-- the list at D is written -/
theorem Dl.write {ι1 ι : List Addr} {H1 H : Hp} {S : Sto} {D : Addr} {vs ws : List V} {acc : List PV} (hD : H1 D = none) (e : Ext ι1 H1 ι H) (r : RSt X.K X.mg ι H S) (nin : D ∉ ι) (h : H D = some (.lst vs)) (h2 : RpL X.K ι H acc ws) :
    Ext ι1 H1 ι (upd H D (.lst ws)) ∧ RSt X.K X.mg ι (upd H D (.lst ws)) S ∧ Dl X.K ι (upd H D (.lst ws)) D acc ∧ ExtW ι H ι (upd H D (.lst ws)) := by
  have eb : ExtW ι H ι (upd H D (.lst ws)) := extW_upd h
  refine ⟨⟨e.pre, fun a o q n => ?_, e.new, fun a xs q => ?_, fun a o u q => ?_⟩, ⟨r.len, r.nd, fun l a o e1 e2 => ?_⟩, ⟨nin, ws, upd_same, RpL.upW eb _ _ h2⟩, eb⟩
  · rw [upd_ne (ne_of_none q hD)]; exact e.fr a o q n
  · rw [upd_ne (ne_of_none q hD)]; exact e.tups a xs q
  · rw [upd_ne (ne_of_none q hD)]; exact e.frzs a o u q
  · have hne : a ≠ D := fun z => nin (z ▸ List.mem_of_getElem? e1)
    have ho := r.obj l a o e1 e2
    have k : upd H D (.lst ws) a = H a := upd_ne hne
    cases o with
    | lst xs => obtain ⟨vs, q, r⟩ := ho; exact ⟨vs, k.trans q, RpL.upW eb _ _ r⟩
    | dct xs => obtain ⟨vs, q, r⟩ := ho; exact ⟨vs, k.trans q, RpF.upW eb r⟩
    | ins C fs => obtain ⟨Ca, dx, ws, m, q, r⟩ := ho; exact ⟨Ca, dx, ws, m, k.trans q, RpF.upW eb r⟩
/-- the list at D becomes ours -/
theorem Dl.adopt {ι1 ι : List Addr} {H1 H : Hp} {S : Sto} {D : Addr} {acc : List PV} (hD : H1 D = none) (e : Ext ι1 H1 ι H) (r : RSt X.K X.mg ι H S) (d : Dl X.K ι H D acc) :
    Ext ι1 H1 (ι ++ [D]) H ∧ RSt X.K X.mg (ι ++ [D]) H (S ++ [.lst acc]) ∧ Rp X.K (ι ++ [D]) H (.loc S.length) (.ref D) := by
  have pre : ∀ (l : Nat) (a : Addr), ι[l]? = some a → (ι ++ [D])[l]? = some a := fun l a h => by
    rw [List.getElem?_append_left (List.getElem?_eq_some_iff.mp h).1]; exact h
  have eb : ExtW ι H (ι ++ [D]) H := ⟨pre, fun _ _ h => h, fun _ _ _ h => h⟩
  obtain ⟨vs, h1, h2⟩ := d.obj
  refine ⟨⟨fun l a h => pre l a (e.pre l a h), e.fr, fun a m => ?_, e.tups, e.frzs⟩, ⟨by simp [r.len], List.nodup_append.mpr ⟨r.nd, by simp, fun x hx y hy => by simp at hy; subst hy; exact fun z => d.nin (z ▸ hx)⟩, fun l' a' o' e1 e2 => ?_⟩, D, rfl, by rw [← r.len]; simp⟩
  · rcases List.mem_append.mp m with q | q
    · exact e.new a q
    · have : a = D := by simpa using q
      subst this; exact .inr hD
  · by_cases hl : l' < ι.length
    · rw [List.getElem?_append_left hl] at e1
      rw [List.getElem?_append_left (by rw [← r.len]; exact hl)] at e2
      have ho := r.obj l' a' o' e1 e2
      cases o' with
      | lst xs => obtain ⟨vs, q, r⟩ := ho; exact ⟨vs, q, RpL.upW eb _ _ r⟩
      | dct xs => obtain ⟨vs, q, r⟩ := ho; exact ⟨vs, q, RpF.upW eb r⟩
      | ins C fs => obtain ⟨Ca, dx, ws, m, q, r⟩ := ho; exact ⟨Ca, dx, ws, m, q, RpF.upW eb r⟩
    · rw [List.getElem?_append_right (by omega)] at e1
      rw [List.getElem?_append_right (by rw [← r.len]; omega)] at e2
      have h0 : l' - ι.length = 0 := by
        have := (List.getElem?_eq_some_iff.mp e1).1
        simp at this; omega
      have h0' : l' - S.length = 0 := by rw [← r.len]; exact h0
      rw [h0] at e1; rw [h0'] at e2
      simp at e1 e2
      subst e1; subst e2
      exact ⟨vs, h1, RpL.upW eb _ _ h2⟩
theorem lc_read {m : EM Wk} {g : GM} {sl : List Nat} {tt : EM Bool} {el : EM PV} {vs : List Nat} (hsl : ∀ i ∈ sl, i ∈ vs) (σ : L2.St) (H : Hp) (Q : VK) (h : gE X W (rV X) (compM m g tt el vs) σ H Q) :
    tLc (gE X W (ItOk X) m) (gG X g sl) (gE X W0 rB tt) (gE X W0 (rV X) el) vs σ H Q := by
  obtain ⟨ι, τ, S, r, ρ, pk⟩ := h
  refine ⟨ι, τ, S, r, ρ, pk.next.mono ?_⟩
  rintro J H1 ⟨t, ι1, S1, e1, r1, q1, pk1⟩
  intro D hD
  have ρ1 := (ρ.up e1).wipe vs
  obtain ⟨E0, r0⟩ := r1.tup (ho := .lst []) hD
  have nD : D ∉ ι1 := fun hm => by
    obtain ⟨l0, o0, _, _, h3⟩ := r1.mem hm
    exact h3.mut.2.1 hD
  refine ⟨fun i n H => ∃ ι S acc, Ext ι1 H1 ι H ∧ RSt X.K X.mg ι H S ∧ REn X.K ι H (wipeE τ vs) (wipe σ vs) ∧ Dl X.K ι H D acc ∧ n = t.items.length - i ∧ i ≤ t.items.length ∧
      Pk X W (rV X) σ Q ι1 H1 (newL (accL t g (stepE tt el) acc (t.items.drop i) (wipeE τ vs) S)),
    ⟨t.items.length, ι1, S1, [], E0, r0, ρ1.up E0, ⟨nD, [], upd_same, rfl⟩, by simp, Nat.zero_le _, by rw [List.drop_zero]; exact pk1⟩, ?_⟩
  rintro i n H2 ⟨ι2, S2, acc, e2, r2, ρ2, d2, hn, hle, pk2⟩
  by_cases hlt : i < t.items.length
  · obtain ⟨p, hp⟩ := get_len hlt
    rw [drop_of_get hp] at pk2
    unfold accL at pk2
    split at pk2
    · rename_i ok
      obtain ⟨go, step⟩ := (q1 i ι2 H2 S2 e2.w r2 ok).1 hlt
      cases hgp : g p (wipeE τ vs) with
      | none => rw [hgp] at pk2; exact pk2.elim
      | some τ3 =>
        rw [hgp] at pk2
        refine .inr ⟨go, fun H' => ∃ ι S acc, Ext ι1 H1 ι H' ∧ RSt X.K X.mg ι H' S ∧ REn X.K ι H' (wipeE τ vs) (wipe σ vs) ∧ Dl X.K ι H' D acc ∧ Pk X W (rV X) σ Q ι1 H1 (newL (accL t g (stepE tt el) acc (t.items.drop (i + 1)) (wipeE τ vs) S)),
          fun H' ⟨ι', S', acc', e', r', ρ', d', pk'⟩ => ⟨n - 1, by omega, ι', S', acc', e', r', ρ', d', by omega, by omega, pk'⟩, fun x H3 hy => ?_⟩
        obtain ⟨p', hp', E3, r3, rv3⟩ := step x H3 hy
        rw [hp] at hp'; cases hp'
        refine ⟨ι2, wipeE τ vs, S2, p, τ3, r3, ρ2.up E3, rv3, hgp, fun σ3 ρ3 c3 => ⟨c3 vs hsl |>.trans (by rw [wipe_wipe]), ι2, τ3, S2, r3, ρ3, ?_⟩⟩
        cases ht : tt τ3 S2 with
        | bad => simp only [stepE, ht, noEr_bad, bnd_bad, newL] at pk2; exact pk2.elim
        | er c p S' => simp only [stepE, ht, noEr_er, bnd_bad, newL] at pk2; exact pk2.elim
        | ok k S4 =>
          show ∀ ι' H' x, Ext ι2 H3 ι' H' → RSt X.K X.mg ι' H' S4 → k = x → _
          rintro ι4 H4 k' E4 r4 rfl
          simp only [stepE, ht, noEr_ok, bnd_ok] at pk2
          cases k with
          | false =>
            rw [if_neg Bool.false_ne_true] at pk2 ⊢
            exact ⟨ι4, S4, acc, (e2.trans E3).trans E4, r4, (ρ2.up E3).up E4, (d2.up E3).up E4, pk2⟩
          | true =>
            rw [if_pos rfl] at pk2 ⊢
            refine ⟨ι4, τ3, S4, r4, ρ3.up E4, ?_⟩
            cases hel : el τ3 S4 with
            | bad => simp only [hel, noEr_bad, bnd_bad, newL] at pk2; exact pk2.elim
            | er c p S' => simp only [hel, noEr_er, bnd_bad, newL] at pk2; exact pk2.elim
            | ok y S5 =>
              show ∀ ι' H' x, Ext ι4 H4 ι' H' → RSt X.K X.mg ι' H' S5 → Rp X.K ι' H' y x → _
              intro ι5 H5 yv E5 r5 q5
              simp only [hel, noEr_ok, bnd_ok] at pk2
              split at pk2
              · rename_i hacc
                have d5 := ((d2.up E3).up E4).up E5
                obtain ⟨ws, h1, h2⟩ := d5.obj
                obtain ⟨E6, r6, d6, b6⟩ := Dl.write (acc := acc ++ [y]) (ws := ws ++ [yv]) hD (((e2.trans E3).trans E4).trans E5) r5 d5.nin h1 (h2.app (RpL.one q5))
                refine ⟨ws, h1, by rw [← h2.length, sizeLine_eq]; exact hacc, ι5, S5, acc ++ [y], E6, r6, REn.upW b6 (((ρ2.up E3).up E4).up E5), d6, pk2⟩
              · exact pk2.elim
    · exact pk2.elim
  · have hi' : i = t.items.length := by omega
    rw [hi', List.drop_length] at pk2
    unfold accL at pk2
    split at pk2
    · rename_i ok
      obtain ⟨E, r', q'⟩ := Dl.adopt hD e2 r2 d2
      exact .inl ⟨(q1 i ι2 H2 S2 e2.w r2 ok).2 (by omega), pk2 _ _ _ E r' q'⟩
    · exact pk2.elim
end
end PL
/-! PLI: comprehensions as rules, two fors, dicts. -/
namespace PL
open PySem PySem.Spec PyProof.Rows L2
section
variable {X : Cx} {W : WX} {a b c e o tg iter : Expr} {es rest : List Expr} {ma mb mc mo : EM PV} {tA tB' : EM Bool} {mas : EM (List PV)} {pos apos cpos p2 : Pos}
theorem re_lc {elt : Expr} {ifs : List Expr} {scope : Scope} {own : List (Str × Nat)} {m : EM Wk} {g : GM} {sl : List Nat} {tt : EM Bool} {el : EM PV} (hc : X.calm = true) (hN : X.N.Nodup) (hi : RI X W tg iter m) (ok : BlkOk X.N X.env.scope scope own)
    (hg : ∀ (s : Shared) (H : Hp) (C : Addr) (cl : List (Str × Addr)) (fp : List Addr), RG (X.blk s H scope (compEnvC scope cl C X.env) fp) tg g sl) (ht : ∀ (s : Shared) (H : Hp) (C : Addr) (cl : List (Str × Addr)) (fp : List Addr), RTs (X.blk s H scope (compEnvC scope cl C X.env) fp) W0 ifs tt)
    (he : ∀ (s : Shared) (H : Hp) (C : Addr) (cl : List (Str × Addr)) (fp : List Addr), RE (X.blk s H scope (compEnvC scope cl C X.env) fp) W0 elt el) (hsl : ∀ i ∈ sl, i ∈ own.map (·.2)) (hs : ∀ x, foldedSetIterable iter X.env x = pure x := by intro _; rfl) :
    RE X W (.ListComp elt [⟨tg, iter, ifs, 0⟩] scope pos) (compM m g tt el (own.map (·.2))) :=
  ⟨pe_weak (pe_lc hc hN hi.pi ok (fun s H C cl fp => (hg s H C cl fp).pg) (fun s H C cl fp => (ht s H C cl fp).pts) (fun s H C cl fp => (he s H C cl fp).pe) hs) fun σ H Q h => lc_read hsl σ H Q h⟩
/-- name = [..] on one line -/
theorem rs_setLc (i : Nat) {y : Str} {py spos : Pos} {elt : Expr} {ifs : List Expr} {scope : Scope} {own : List (Str × Nat)} {m : EM Wk} {g : GM} {sl : List Nat} {tt : EM Bool} {el : EM PV} (hc : X.calm = true) (hN : X.N.Nodup) (hy : X.N[i]? = some y) (hyl : X.env.scope.names.lookup y = some .local)
    (hsw : swapsWith (.ListComp elt [⟨tg, iter, ifs, 0⟩] scope pos) (some (.Name y py)) spos.line X.env = pure true) (hi : RI X W tg iter m) (ok : BlkOk X.N X.env.scope scope own)
    (hg : ∀ (s : Shared) (H : Hp) (C : Addr) (cl : List (Str × Addr)) (fp : List Addr), RG (X.blk s H scope (compEnvC scope cl C X.env) fp) tg g sl) (ht : ∀ (s : Shared) (H : Hp) (C : Addr) (cl : List (Str × Addr)) (fp : List Addr), RTs (X.blk s H scope (compEnvC scope cl C X.env) fp) W0 ifs tt)
    (he : ∀ (s : Shared) (H : Hp) (C : Addr) (cl : List (Str × Addr)) (fp : List Addr), RE (X.blk s H scope (compEnvC scope cl C X.env) fp) W0 elt el) (hsl : ∀ i ∈ sl, i ∈ own.map (·.2)) (hs : ∀ x, foldedSetIterable iter X.env x = pure x := by intro _; rfl) :
    RS X W (.Assign [.Name y py] (.ListComp elt [⟨tg, iter, ifs, 0⟩] scope pos) spos) (asgS (compM m g tt el (own.map (·.2))) (gN i)) :=
  ⟨ps_weak (ps_setLc hc hN hy hyl hsw hi.pi ok (fun s H C cl fp => (hg s H C cl fp).pg) (fun s H C cl fp => (ht s H C cl fp).pts) (fun s H C cl fp => (he s H C cl fp).pe) hs) fun D σ H h => by
    obtain ⟨ι, τ, S, r, ρ, pk⟩ := h
    exact lc_read hsl σ H _ ⟨ι, τ, S, r, ρ, (PkS.next (R := rV X) ρ pk).mono fun x H1 ⟨p, ι1, S1, e1, r1, q1, pk1⟩ => pk1 ι1 H1 _ .refl r1 ((ρ.up e1).set i q1)⟩⟩
noncomputable def stepI (tt : EM Bool) (m1 : EM Wk) (g1 : GM) (tt1 : EM Bool) (el : EM PV) (vs1 : List Nat) : List PV → En → Sto → Out (List PV) := fun acc τ S => bnd (noEr (tt τ S)) fun k S1 =>
  if k = true then bnd (noEr (m1 τ S1)) fun t1 S2 => accL t1 g1 (stepE tt1 el) acc t1.items (wipeE τ vs1) S2 else .ok acc S1
noncomputable def comp2M (m : EM Wk) (g : GM) (tt : EM Bool) (m1 : EM Wk) (g1 : GM) (tt1 : EM Bool) (el : EM PV) (vs vs1 : List Nat) : EM PV := fun τ S => bnd (m τ S) fun t S1 => newL (accL t g (stepI tt m1 g1 tt1 el vs1) [] t.items (wipeE τ vs) S1)
theorem lc2_read {m m1 : EM Wk} {g g1 : GM} {sl sl1 : List Nat} {tt tt1 : EM Bool} {el : EM PV} {vs vs1 : List Nat} (hsl : ∀ i ∈ sl, i ∈ vs) (hsl1 : ∀ i ∈ sl1, i ∈ vs1) (σ : L2.St) (H : Hp) (Q : VK) (h : gE X W (rV X) (comp2M m g tt m1 g1 tt1 el vs vs1) σ H Q) :
    tLc2 (gE X W (ItOk X) m) (gG X g sl) (gE X W0 rB tt) (gE X W0 (ItOk X) m1) (gG X g1 sl1) (gE X W0 rB tt1) (gE X W0 (rV X) el) vs vs1 σ H Q := by
  obtain ⟨ι, τ, S, r, ρ, pk⟩ := h
  refine ⟨ι, τ, S, r, ρ, pk.next.mono ?_⟩
  rintro J H1 ⟨t, ι1, S1, e1, r1, q1, pk1⟩
  intro D hD
  have ρ1 := (ρ.up e1).wipe vs
  obtain ⟨E0, r0⟩ := r1.tup (ho := .lst []) hD
  have nD : D ∉ ι1 := fun hm => by
    obtain ⟨l0, o0, _, _, h3⟩ := r1.mem hm
    exact h3.mut.2.1 hD
  refine ⟨fun i n H => ∃ ι S acc, Ext ι1 H1 ι H ∧ RSt X.K X.mg ι H S ∧ REn X.K ι H (wipeE τ vs) (wipe σ vs) ∧ Dl X.K ι H D acc ∧ n = t.items.length - i ∧ i ≤ t.items.length ∧
      Pk X W (rV X) σ Q ι1 H1 (newL (accL t g (stepI tt m1 g1 tt1 el vs1) acc (t.items.drop i) (wipeE τ vs) S)),
    ⟨t.items.length, ι1, S1, [], E0, r0, ρ1.up E0, ⟨nD, [], upd_same, rfl⟩, by simp, Nat.zero_le _, by rw [List.drop_zero]; exact pk1⟩, ?_⟩
  rintro i n H2 ⟨ι2, S2, acc, e2, r2, ρ2, d2, hn, hle, pk2⟩
  by_cases hlt : i < t.items.length
  · obtain ⟨p, hp⟩ := get_len hlt
    rw [drop_of_get hp] at pk2
    unfold accL at pk2
    split at pk2
    · rename_i ok
      obtain ⟨go, step⟩ := (q1 i ι2 H2 S2 e2.w r2 ok).1 hlt
      cases hgp : g p (wipeE τ vs) with
      | none => rw [hgp] at pk2; exact pk2.elim
      | some τ3 =>
        rw [hgp] at pk2
        refine .inr ⟨go, fun H' => ∃ ι S acc, Ext ι1 H1 ι H' ∧ RSt X.K X.mg ι H' S ∧ REn X.K ι H' (wipeE τ vs) (wipe σ vs) ∧ Dl X.K ι H' D acc ∧ Pk X W (rV X) σ Q ι1 H1 (newL (accL t g (stepI tt m1 g1 tt1 el vs1) acc (t.items.drop (i + 1)) (wipeE τ vs) S)),
          fun H' ⟨ι', S', acc', e', r', ρ', d', pk'⟩ => ⟨n - 1, by omega, ι', S', acc', e', r', ρ', d', by omega, by omega, pk'⟩, fun x H3 hy => ?_⟩
        obtain ⟨p', hp', E3, r3, rv3⟩ := step x H3 hy
        rw [hp] at hp'; cases hp'
        refine ⟨ι2, wipeE τ vs, S2, p, τ3, r3, ρ2.up E3, rv3, hgp, fun σ3 ρ3 c3 => ⟨c3 vs hsl |>.trans (by rw [wipe_wipe]), ι2, τ3, S2, r3, ρ3, ?_⟩⟩
        cases ht : tt τ3 S2 with
        | bad => simp only [stepI, ht, noEr_bad, bnd_bad, newL] at pk2; exact pk2.elim
        | er c p S' => simp only [stepI, ht, noEr_er, bnd_bad, newL] at pk2; exact pk2.elim
        | ok k S4 =>
          show ∀ ι' H' x, Ext ι2 H3 ι' H' → RSt X.K X.mg ι' H' S4 → k = x → _
          rintro ι4 H4 k' E4 r4 rfl
          simp only [stepI, ht, noEr_ok, bnd_ok] at pk2
          cases k with
          | false =>
            rw [if_neg Bool.false_ne_true] at pk2 ⊢
            exact ⟨ι4, S4, acc, (e2.trans E3).trans E4, r4, (ρ2.up E3).up E4, (d2.up E3).up E4, pk2⟩
          | true =>
            rw [if_pos rfl] at pk2 ⊢
            refine ⟨ι4, τ3, S4, r4, ρ3.up E4, ?_⟩
            cases hm1 : m1 τ3 S4 with
            | bad => simp only [hm1, noEr_bad, bnd_bad, newL] at pk2; exact pk2.elim
            | er c p S' => simp only [hm1, noEr_er, bnd_bad, newL] at pk2; exact pk2.elim
            | ok t1 S5 =>
              show ∀ ι' H' x, Ext ι4 H4 ι' H' → RSt X.K X.mg ι' H' S5 → ItOk X ι' H' t1 x → _
              intro ι5 H5 J1 E5 r5 q5
              simp only [hm1, noEr_ok, bnd_ok] at pk2
              have ρ5 := (((ρ3.up E4).up E5)).wipe vs1
              have ρo := ((ρ2.up E3).up E4).up E5
              have d5 := ((d2.up E3).up E4).up E5
              have e5 := ((e2.trans E3).trans E4).trans E5
              refine ⟨fun j l H => ∃ ι S acc, Ext ι1 H1 ι H ∧ ExtW ι5 H5 ι H ∧ RSt X.K X.mg ι H S ∧ REn X.K ι H (wipeE τ vs) (wipe σ vs) ∧ REn X.K ι H (wipeE τ3 vs1) (wipe σ3 vs1) ∧ Dl X.K ι H D acc ∧ l = t1.items.length - j ∧ j ≤ t1.items.length ∧
                  Pk X W (rV X) σ Q ι1 H1 (newL (bnd (accL t1 g1 (stepE tt1 el) acc (t1.items.drop j) (wipeE τ3 vs1) S) fun acc' S1 => accL t g (stepI tt m1 g1 tt1 el vs1) acc' (t.items.drop (i + 1)) (wipeE τ vs) S1)),
                ⟨t1.items.length, ι5, S5, acc, e5, .refl, r5, ρo, ρ5, d5, by simp, Nat.zero_le _, by rw [List.drop_zero]; exact pk2⟩, ?_⟩
              rintro j l H6 ⟨ι6, S6, acc6, e6, b6, r6, ρo6, ρ6, d6, hl6, hle6, pk6⟩
              by_cases hlt6 : j < t1.items.length
              · obtain ⟨p6, hp6⟩ := get_len hlt6
                rw [drop_of_get hp6, accL_cons] at pk6
                split at pk6
                · rename_i ok6
                  obtain ⟨go6, step6⟩ := (q5 j ι6 H6 S6 b6 r6 ok6).1 hlt6
                  cases hgp6 : g1 p6 (wipeE τ3 vs1) with
                  | none => rw [hgp6] at pk6; exact pk6.elim
                  | some τ7 =>
                    rw [hgp6] at pk6
                    refine .inr ⟨go6, fun H' => ∃ ι S acc, Ext ι1 H1 ι H' ∧ ExtW ι5 H5 ι H' ∧ RSt X.K X.mg ι H' S ∧ REn X.K ι H' (wipeE τ vs) (wipe σ vs) ∧ REn X.K ι H' (wipeE τ3 vs1) (wipe σ3 vs1) ∧ Dl X.K ι H' D acc ∧
                        Pk X W (rV X) σ Q ι1 H1 (newL (bnd (accL t1 g1 (stepE tt1 el) acc (t1.items.drop (j + 1)) (wipeE τ3 vs1) S) fun acc' S1 => accL t g (stepI tt m1 g1 tt1 el vs1) acc' (t.items.drop (i + 1)) (wipeE τ vs) S1)),
                      fun H' ⟨ι', S', acc', e', b', r', ρo', ρ', d', pk'⟩ => ⟨l - 1, by omega, ι', S', acc', e', b', r', ρo', ρ', d', by omega, by omega, pk'⟩, fun x H7 hy => ?_⟩
                    obtain ⟨p', hp', E7, r7, rv7⟩ := step6 x H7 hy
                    rw [hp6] at hp'; cases hp'
                    refine ⟨ι6, wipeE τ3 vs1, S6, p6, τ7, r7, ρ6.up E7, rv7, hgp6, fun σ7 ρ7 c7 => ⟨c7 vs1 hsl1 |>.trans (by rw [wipe_wipe]), ι6, τ7, S6, r7, ρ7, ?_⟩⟩
                    cases ht7 : tt1 τ7 S6 with
                    | bad => simp only [stepE, ht7, noEr_bad, bnd_bad, newL] at pk6; exact pk6.elim
                    | er c p S' => simp only [stepE, ht7, noEr_er, bnd_bad, newL] at pk6; exact pk6.elim
                    | ok k S8 =>
                      show ∀ ι' H' x, Ext ι6 H7 ι' H' → RSt X.K X.mg ι' H' S8 → k = x → _
                      rintro ι8 H8 k' E8 r8 rfl
                      simp only [stepE, ht7, noEr_ok, bnd_ok] at pk6
                      cases k with
                      | false =>
                        rw [if_neg Bool.false_ne_true] at pk6 ⊢
                        exact ⟨ι8, S8, acc6, (e6.trans E7).trans E8, (b6.trans E7.w).trans E8.w, r8, (ρo6.up E7).up E8, (ρ6.up E7).up E8, (d6.up E7).up E8, pk6⟩
                      | true =>
                        rw [if_pos rfl] at pk6 ⊢
                        refine ⟨ι8, τ7, S8, r8, ρ7.up E8, ?_⟩
                        cases hel : el τ7 S8 with
                        | bad => simp only [hel, noEr_bad, bnd_bad, newL] at pk6; exact pk6.elim
                        | er c p S' => simp only [hel, noEr_er, bnd_bad, newL] at pk6; exact pk6.elim
                        | ok y S9 =>
                          show ∀ ι' H' x, Ext ι8 H8 ι' H' → RSt X.K X.mg ι' H' S9 → Rp X.K ι' H' y x → _
                          intro ι9 H9 yv E9 r9 q9
                          simp only [hel, noEr_ok, bnd_ok] at pk6
                          split at pk6
                          · rename_i hacc
                            have d9 := ((d6.up E7).up E8).up E9
                            obtain ⟨ws, h1, h2⟩ := d9.obj
                            obtain ⟨E10, r10, d10, b10⟩ := Dl.write (acc := acc6 ++ [y]) (ws := ws ++ [yv]) hD (((e6.trans E7).trans E8).trans E9) r9 d9.nin h1 (h2.app (RpL.one q9))
                            exact ⟨ws, h1, by rw [← h2.length, sizeLine_eq]; exact hacc, ι9, S9, acc6 ++ [y], E10, (((b6.trans E7.w).trans E8.w).trans E9.w).trans b10, r10, REn.upW b10 (((ρo6.up E7).up E8).up E9), REn.upW b10 (((ρ6.up E7).up E8).up E9), d10, pk6⟩
                          · exact pk6.elim
                · exact pk6.elim
              · have hi' : j = t1.items.length := by omega
                rw [hi', List.drop_length, accL_nil] at pk6
                split at pk6
                · rename_i ok6
                  exact .inl ⟨(q5 j ι6 H6 S6 b6 r6 ok6).2 (by omega), ι6, S6, acc6, e6, r6, ρo6, d6, pk6⟩
                · exact pk6.elim
    · exact pk2.elim
  · have hi' : i = t.items.length := by omega
    rw [hi', List.drop_length] at pk2
    unfold accL at pk2
    split at pk2
    · rename_i ok
      obtain ⟨E, r', q'⟩ := Dl.adopt hD e2 r2 d2
      exact .inl ⟨(q1 i ι2 H2 S2 e2.w r2 ok).2 (by omega), pk2 _ _ _ E r' q'⟩
    · exact pk2.elim
theorem re_lc2 {elt tg1 iter1 : Expr} {ifs ifs1 : List Expr} {scope : Scope} {own : List (Str × Nat)} {vs1 : List Nat} {m m1 : EM Wk} {g g1 : GM} {sl sl1 : List Nat} {tt tt1 : EM Bool} {el : EM PV} (hc : X.calm = true) (hN : X.N.Nodup) (hi : RI X W tg iter m) (ok : BlkOk X.N X.env.scope scope own) (hv : ∀ i ∈ vs1, i ∈ own.map (·.2))
    (hg : ∀ (s : Shared) (H : Hp) (C : Addr) (cl : List (Str × Addr)) (fp : List Addr), RG (X.blk s H scope (compEnvC scope cl C X.env) fp) tg g sl) (ht : ∀ (s : Shared) (H : Hp) (C : Addr) (cl : List (Str × Addr)) (fp : List Addr), RTs (X.blk s H scope (compEnvC scope cl C X.env) fp) W0 ifs tt)
    (hi1 : ∀ (s : Shared) (H : Hp) (C : Addr) (cl : List (Str × Addr)) (fp : List Addr), RI (X.blk s H scope (compEnvC scope cl C X.env) fp) W0 tg1 iter1 m1)
    (hg1 : ∀ (s : Shared) (H : Hp) (C : Addr) (cl : List (Str × Addr)) (fp : List Addr), RG (X.blk s H scope (compEnvC scope cl C X.env) fp) tg1 g1 sl1) (ht1 : ∀ (s : Shared) (H : Hp) (C : Addr) (cl : List (Str × Addr)) (fp : List Addr), RTs (X.blk s H scope (compEnvC scope cl C X.env) fp) W0 ifs1 tt1)
    (he : ∀ (s : Shared) (H : Hp) (C : Addr) (cl : List (Str × Addr)) (fp : List Addr), RE (X.blk s H scope (compEnvC scope cl C X.env) fp) W0 elt el) (hsl : ∀ i ∈ sl, i ∈ own.map (·.2)) (hsl1 : ∀ i ∈ sl1, i ∈ vs1) (hs : ∀ x, foldedSetIterable iter X.env x = pure x := by intro _; rfl) (hs1 : ∀ env x, foldedSetIterable iter1 env x = pure x := by intro _ _; rfl) :
    RE X W (.ListComp elt [⟨tg, iter, ifs, 0⟩, ⟨tg1, iter1, ifs1, 0⟩] scope pos) (comp2M m g tt m1 g1 tt1 el (own.map (·.2)) vs1) :=
  ⟨pe_weak (pe_lc2 hc hN hi.pi ok hv (fun s H C cl fp => (hg s H C cl fp).pg) (fun s H C cl fp => (ht s H C cl fp).pts) (fun s H C cl fp => (hi1 s H C cl fp).pi) (fun s H C cl fp => (hg1 s H C cl fp).pg) (fun s H C cl fp => (ht1 s H C cl fp).pts) (fun s H C cl fp => (he s H C cl fp).pe) hs hs1)
    fun σ H Q h => lc2_read hsl hsl1 σ H Q h⟩
end
end PL
/-! PLJ: dicts, own classes, raise, try. -/
namespace PL
open PySem PySem.Spec PyProof.Rows L2
section
variable {X : Cx} {W : WX} {a b c e o f tg iter : Expr} {es rest : List Expr} {ma mb mc mo mf : EM PV} {tA tB' : EM Bool} {mas : EM (List PV)} {pos apos cpos p2 : Pos}
/-! ### dicts -/
def dictM : EM PV := fun _ S => .ok (.loc S.length) (S ++ [.dct []])
theorem RSt.new_dct {K : PySem.W.Frag} {mg : Str → Option Value} {ι : List Addr} {H : Hp} {S : Sto} (r : RSt K mg ι H S) {p : Addr} (hp : H p = none) {xs : List (Key × PV)} {vs : List (Key × V)} (h : RpF K ι H xs vs) : Ext ι H (ι ++ [p]) (upd H p (.dK vs)) ∧ RSt K mg (ι ++ [p]) (upd H p (.dK vs)) (S ++ [.dct xs]) ∧ Rp K (ι ++ [p]) (upd H p (.dK vs)) (.loc S.length) (.ref p) := by
  have E : Ext ι H (ι ++ [p]) (upd H p (.dK vs)) := .alloc hp
  exact ⟨E, r.alloc hp (fun _ _ _ _ => trivial) E ⟨vs, upd_same, h.up E⟩, p, rfl, by rw [← r.len]; simp⟩
theorem re_dict0 : RE X W (.Dict [] [] pos) dictM := ⟨pe_weak pe_dnewK fun σ H Q ⟨ι, τ, S, r, ρ, pk⟩ p hp => by
  obtain ⟨E, r2, q2⟩ := r.new_dct hp (xs := []) (vs := []) rfl
  exact pk _ _ _ E r2 q2⟩
def isDct (p : PV) (S : Sto) : Bool := match p with
  | .loc l => (match S[l]? with | some (.dct _) => true | _ => false)
  | _ => false
theorem isDct_rp {ι : List Addr} {H : Hp} {S : Sto} {p : PV} {x : V} (rs : RSt X.K X.mg ι H S) (rp : Rp X.K ι H p x) (h : isDct p S = true) : ∃ a, x = .ref a ∧ IsD H a := by
  unfold isDct at h
  split at h
  · split at h
    · rename_i eS
      obtain ⟨a, rfl, h1⟩ := rp
      obtain ⟨vs, h2, h3⟩ := rs.obj _ a _ h1 eS
      exact ⟨a, rfl, .inl ⟨vs, .inl h2⟩⟩
    · cases h
  · cases h
/-- d.setdefault(k, x) -/
def setdefP (d k x : PV) (S : Sto) : Option (PV × Sto) := match d with
  | .loc l => match S[l]?, keyP k with
    | some (.dct kvs), some kk => if kvs.length < 16777216 then (match valP kvs kk with | some v => some (v, S) | none => some (x, S.set l (.dct (putP kvs kk x)))) else none
    | _, _ => none
  | _ => none
def m2M (f : PV → PV → PV → Sto → Option (PV × Sto)) (mo ma mb : EM PV) : EM PV := fun τ S => bnd (mo τ S) fun d S1 => if isDct d S1 = true then bnd (ma τ S1) fun k S2 => bnd (mb τ S2) fun x S3 => lift (f d k x S3) else .bad
def m1M (f : PV → PV → Sto → Option (PV × Sto)) (mo ma : EM PV) : EM PV := fun τ S => bnd (mo τ S) fun d S1 => if isDct d S1 = true then bnd (ma τ S1) fun k S2 => lift (f d k S2) else .bad
theorem re_setdef (ho : RE X W o mo) (he : RE X W e ma) (hf : RE X W f mf) (m : M2 X o "setdefault" apos e f cpos) : RE X W (.Call (.Attribute o "setdefault" apos) [e, f] [] cpos) (m2M setdefP mo ma mf) := by
  refine ⟨pe_weak (pe_dsetd ho.pe he.pe hf.pe m) fun σ H Q ⟨ι, τ, S, r, ρ, pk⟩ => ⟨ι, τ, S, r, ρ, pk.next.mono fun x H1 ⟨p, ι1, S1, e1, r1, q1, pk1⟩ => ?_⟩⟩
  split at pk1
  · rename_i hd
    obtain ⟨aD, rfl, hD⟩ := isDct_rp r1 q1 hd
    refine ⟨aD, rfl, hD, ι1, τ, S1, r1, ρ.up e1, pk1.next.mono fun y H2 ⟨k, ι2, S2, e2, r2, q2, pk2⟩ => ⟨ι2, τ, S2, r2, (ρ.up e1).up e2, pk2.next.mono fun z H3 ⟨w, ι3, S3, e3, r3, q3, pk3⟩ => ?_⟩⟩
    obtain ⟨v, S', hf, kk⟩ := pk_lift pk3
    unfold setdefP at hf
    split at hf
    · split at hf
      · rename_i l _ _ kvs kx eS ek
        split at hf
        · rename_i hl
          obtain ⟨a, ea, h1⟩ := (q1.up e2).up e3
          cases ea
          obtain ⟨ws, h2, h3⟩ := r3.obj _ aD _ h1 eS
          cases key_rp (q2.up e3) ek
          obtain ⟨i1, i2⟩ := RpF.val (k := kx) h3
          refine ⟨ws, kx, h2, rfl, by rw [← h3.length, sizeLine_eq]; exact hl, fun v' hv => ?_, fun hv => ?_⟩
          · split at hf
            · rename_i v0 e0
              cases hf
              obtain ⟨v1, e1', e2'⟩ := i1 _ e0
              rw [hv] at e1'; cases e1'
              exact kk _ _ _ .refl r3 e2'
            · rename_i e0
              rw [i2 e0] at hv; cases hv
          · split at hf
            · rename_i v0 e0
              obtain ⟨v1, e1', _⟩ := i1 _ e0
              rw [hv] at e1'; cases e1'
            · cases hf
              obtain ⟨E, r4⟩ := r3.wdct h1 (h3.put q3)
              exact kk _ _ _ E r4 (q3.up E)
        · cases hf
      · cases hf
    · cases hf
  · exact pk1.elim
/-- d.get(k), d.get(k, x) -/
def get1P (d k : PV) (S : Sto) : Option (PV × Sto) := match d with
  | .loc l => match S[l]?, keyP k with | some (.dct kvs), some kk => some ((valP kvs kk).getD .non, S) | _, _ => none
  | _ => none
def get2P (d k x : PV) (S : Sto) : Option (PV × Sto) := match d with
  | .loc l => match S[l]?, keyP k with | some (.dct kvs), some kk => some ((valP kvs kk).getD x, S) | _, _ => none
  | _ => none
theorem re_get1 (hu : X.A.units + 1 < cLine) (ho : RE X W o mo) (he : RE X W e ma) (m : M1 X o "get" apos e cpos) : RE X W (.Call (.Attribute o "get" apos) [e] [] cpos) (m1M get1P mo ma) := by
  refine ⟨pe_weak (pe_dget1 hu ho.pe he.pe m) fun σ H Q ⟨ι, τ, S, r, ρ, pk⟩ => ⟨ι, τ, S, r, ρ, pk.next.mono fun x H1 ⟨p, ι1, S1, e1, r1, q1, pk1⟩ => ?_⟩⟩
  split at pk1
  · rename_i hd
    obtain ⟨aD, rfl, hD⟩ := isDct_rp r1 q1 hd
    refine ⟨aD, rfl, hD, ι1, τ, S1, r1, ρ.up e1, pk1.next.mono fun y H2 ⟨k, ι2, S2, e2, r2, q2, pk2⟩ => ?_⟩
    obtain ⟨v, S', hf, kk⟩ := pk_lift pk2
    unfold get1P at hf
    split at hf
    · split at hf
      · rename_i kvs kx eS ek
        cases hf
        obtain ⟨a, ea, h1⟩ := q1.up e2
        cases ea
        obtain ⟨ws, h2, h3⟩ := r2.obj _ aD _ h1 eS
        cases key_rp q2 ek
        obtain ⟨i1, i2⟩ := RpF.val (k := kx) h3
        refine ⟨valV ws kx, DGet.k h2, ?_⟩
        cases hv : valP kvs kx with
        | none => rw [i2 hv]; exact kk _ _ _ .refl r2 (by rw [hv]; exact rfl)
        | some v0 =>
          obtain ⟨v1, e1', e2'⟩ := i1 _ hv
          rw [e1']
          exact kk _ _ _ .refl r2 (by rw [hv]; exact e2')
      · cases hf
    · cases hf
  · exact pk1.elim
theorem re_get2 (hu : X.A.units + 1 < cLine) (ho : RE X W o mo) (he : RE X W e ma) (hf : RE X W f mf) (m : M2 X o "get" apos e f cpos) : RE X W (.Call (.Attribute o "get" apos) [e, f] [] cpos) (m2M get2P mo ma mf) := by
  refine ⟨pe_weak (pe_dget2 hu ho.pe he.pe hf.pe m) fun σ H Q ⟨ι, τ, S, r, ρ, pk⟩ => ⟨ι, τ, S, r, ρ, pk.next.mono fun x H1 ⟨p, ι1, S1, e1, r1, q1, pk1⟩ => ?_⟩⟩
  split at pk1
  · rename_i hd
    obtain ⟨aD, rfl, hD⟩ := isDct_rp r1 q1 hd
    refine ⟨aD, rfl, hD, ι1, τ, S1, r1, ρ.up e1, pk1.next.mono fun y H2 ⟨k, ι2, S2, e2, r2, q2, pk2⟩ => ⟨ι2, τ, S2, r2, (ρ.up e1).up e2, pk2.next.mono fun z H3 ⟨w, ι3, S3, e3, r3, q3, pk3⟩ => ?_⟩⟩
    obtain ⟨v, S', hf, kk⟩ := pk_lift pk3
    unfold get2P at hf
    split at hf
    · split at hf
      · rename_i kvs kx eS ek
        cases hf
        obtain ⟨a, ea, h1⟩ := (q1.up e2).up e3
        cases ea
        obtain ⟨ws, h2, h3⟩ := r3.obj _ aD _ h1 eS
        cases key_rp (q2.up e3) ek
        obtain ⟨i1, i2⟩ := RpF.val (k := kx) h3
        refine ⟨valV ws kx, DGet.k h2, ?_⟩
        cases hv : valP kvs kx with
        | none => rw [i2 hv]; exact kk _ _ _ .refl r3 (by rw [hv]; exact q3)
        | some v0 =>
          obtain ⟨v1, e1', e2'⟩ := i1 _ hv
          rw [e1']
          exact kk _ _ _ .refl r3 (by rw [hv]; exact e2')
      · cases hf
    · cases hf
  · exact pk1.elim
/-! ### own classes: fields -/
def fldM (C f : Str) (m : EM PV) : EM PV := fun τ S => bnd (m τ S) fun p S1 => match p with
  | .loc l => match S1[l]? with
    | some (.ins C' fs) => if C' = C then (match fs.lookup f with | some v => .ok v S1 | none => .bad) else .bad
    | _ => .bad
  | _ => .bad
theorem re_fld {C f : Str} {Ca : Addr} (hm : X.mg C = some (.ref Ca)) (cl : Cls X.K Ca) (na : NoAttr X.K Ca f) (he : RE X W e ma) (hb : attributeBase e f X.env (eval e X.env) = eval e X.env := by rfl) : RE X W (.Attribute e f pos) (fldM C f ma) := by
  refine ⟨pe_weak (pe_fld he.pe hb) fun σ H Q ⟨ι, τ, S, r, ρ, pk⟩ => ⟨ι, τ, S, r, ρ, pk.next.mono fun x H1 ⟨p, ι1, S1, e1, r1, q1, pk1⟩ => ?_⟩⟩
  split at pk1
  · split at pk1
    · rename_i l _ C' fs eS
      split at pk1
      · rename_i hC
        subst hC
        split at pk1
        · rename_i v hv
          obtain ⟨a, rfl, h1⟩ := q1
          obtain ⟨Cb, dx, ws, h2, h3, h4⟩ := r1.obj _ a _ h1 eS
          rw [hm] at h2; cases h2
          obtain ⟨w, h5, h6⟩ := RpF.lookup h4 hv
          exact ⟨a, Ca, dx, ws, w, rfl, h3, cl, na, h5, pk1 _ _ _ .refl r1 h6⟩
        · exact pk1.elim
      · exact pk1.elim
    · exact pk1.elim
  · exact pk1.elim
def putG (f : Str) (v : PV) : List (Str × PV) → List (Str × PV)
  | [] => [(f, v)]
  | (g, x) :: r => if g = f then (g, v) :: r else (g, x) :: putG f v r
theorem RpF.putG {K : PySem.W.Frag} {ι : List Addr} {H : Hp} {f : Str} {y : PV} {z : V} (hy : Rp K ι H y z) : ∀ {fs : List (Str × PV)} {ws : List (Str × V)}, RpF K ι H fs ws → RpF K ι H (PL.putG f y fs) (L2.putF f z ws)
  | [], _, h => by cases (show _ = _ from h); exact ⟨z, [], rfl, hy, rfl⟩
  | (k, x) :: r, _, h => by
    obtain ⟨v, w, rfl, h1, h2⟩ := h
    unfold PL.putG L2.putF
    by_cases e : k = f
    · rw [if_pos e, if_pos e]; exact ⟨z, w, rfl, hy, h2⟩
    · rw [if_neg e, if_neg e]; exact ⟨v, _, rfl, h1, RpF.putG hy h2⟩
/-- o.f = e -/
def setfS (C f : Str) (m mo : EM PV) : SM := fun τ S => bndS (m τ S) τ fun v S1 => bndS (mo τ S1) τ fun p S2 => match p with
  | .loc l => match S2[l]? with
    | some (.ins C' fs) => if C' = C ∧ fs.length < 1000 then .nx τ (S2.set l (.ins C (putG f v fs))) else .bad
    | _ => .bad
  | _ => .bad
theorem rs_fld {C f : Str} {Ca : Addr} {p' : Pos} (hm : X.mg C = some (.ref Ca)) (cl : Cls X.K Ca) (na : NoAttr X.K Ca f) (ho : RE X W o mo) (he : RE X W e ma) (hs : swapsWith e (some (.Attribute o f p')) pos.line X.env = pure false := by rfl) : RS X W (.Assign [.Attribute o f p'] e pos) (setfS C f ma mo) := by
  refine ⟨ps_weak (ps_fld ho.pe he.pe hs) fun D σ H ⟨ι, τ, S, r, ρ, pk⟩ => ⟨ι, τ, S, r, ρ, (PkS.next (R := rV X) ρ pk).mono fun y H1 ⟨v, ι1, S1, e1, r1, q1, pk1⟩ => ⟨ι1, τ, S1, r1, ρ.up e1, (PkS.next (R := rV X) (ρ.up e1) pk1).mono fun x H2 ⟨p, ι2, S2, e2, r2, q2, pk2⟩ => ?_⟩⟩⟩
  split at pk2
  · split at pk2
    · rename_i l _ C' fs eS
      split at pk2
      · rename_i hC
        obtain ⟨hC, hl⟩ := hC
        subst hC
        obtain ⟨a, rfl, h1⟩ := q2
        obtain ⟨Cb, dx, ws, h2, h3, h4⟩ := r2.obj _ a _ h1 eS
        have hcb := h2
        rw [hm] at h2; cases h2
        obtain ⟨E, r3⟩ := r2.wins h1 hcb (h4.putG (f := f) (q1.up e2))
        exact ⟨a, Ca, dx, ws, rfl, h3, cl, na, by rw [← h4.length]; exact hl, pk2 _ _ _ E r3 (((ρ.up e1).up e2).up E)⟩
      · exact pk2.elim
    · exact pk2.elim
  · exact pk2.elim
/-! ### methods -/
def tMethW (C : Addr) (m : Str) (sp : Sp) (E : L2.St → XK) (ta : TE) (t : TA) : TE := fun σ H Q => ta σ H fun x H1 => ∃ a dx fs, x = .ref a ∧ H1 a = some (.ins C dx fs) ∧ fs.lookup m = none ∧
  t σ H1 fun vs H2 => sp (x :: vs) H2 Q (E σ)
theorem pe_methW {CX : CXT} {k : Nat} {C f : Addr} {fd : FuncData} {ps : List Str} {sp : Sp} {E : L2.St → XK} {m : Str} {ta : TE} {t : TA} {pl : Sem Bool} (he : PE X o ta) (c : Cls X.K C) (hm : Meth X.K C m f) (F : FnOk X.prog X.w X.K X.mg X.base CX k f fd ps sp) (hr : Room k X.A) (hb : Binds X.K fd ps []) (hx : ∀ σ, PassesAt CX X σ (E σ)) (ha : PA X (e :: es) t)
    (hst : starEach (e :: es) X.env = (false, eval e X.env) :: starEach es X.env := by rfl) (hpl : (backTo pos (starEach es X.env)).any (·.1) = false := by rfl)
    (ht : eval (.Call (.Attribute o m apos) (e :: es) [] pos) X.env = (do
      let ov ← eval o X.env
      standAt apos.atName
      let (f, first) ← holding [ov] (getMethod ov m pl)
      callWith pos f first (backTo pos (starEach (e :: es) X.env)) (backToKw pos (keywordEach [] X.env))) := by rfl) :
    PE X (.Call (.Attribute o m apos) (e :: es) [] pos) (tMethW C m sp E ta t) := by
  refine ⟨fun pins s σ H Q I h => ?_⟩
  refine PySem.W.methodCall_KW (pl := pl) (thn (he.run pins s σ H _ I h) fun u s1 ⟨x, H1, I1, rx, a, dx, fs, ex, ea, l, q⟩ => ?_) ht
  subst ex
  obtain rfl : u = Value.ref a := rx
  refine getmeth_ok I1 ea c hm l ?_
  refine PySem.W.callWith_K (first := [.ref a]) (h₀ := X.base) I.ok.mod.kin hm.kp (thn (ha.run pos pins s1 σ H1 _ I1 q) fun us s2 ⟨vs, H2, I2, r, q2⟩ => ⟨I2.kIn, ?_⟩) hst hpl
  exact run_fnS (us := .ref a :: us) (vs := .ref a :: vs) F hr hb (hx σ) I2 (.cons rfl r) q2
theorem pe_methW0 {CX : CXT} {k : Nat} {C f : Addr} {fd : FuncData} {ps : List Str} {sp : Sp} {E : L2.St → XK} {m : Str} {ta : TE} {pl : Sem Bool} (he : PE X o ta) (c : Cls X.K C) (hm : Meth X.K C m f) (F : FnOk X.prog X.w X.K X.mg X.base CX k f fd ps sp) (hr : Room k X.A) (hb : Binds X.K fd ps []) (hx : ∀ σ, PassesAt CX X σ (E σ))
    (ht : eval (.Call (.Attribute o m apos) [] [] pos) X.env = (do
      let ov ← eval o X.env
      standAt apos.atName
      let (f, first) ← holding [ov] (getMethod ov m pl)
      callWith pos f first (backTo pos (starEach [] X.env)) (backToKw pos (keywordEach [] X.env))) := by rfl) :
    PE X (.Call (.Attribute o m apos) [] [] pos) (tMethW C m sp E ta tNil) := by
  refine ⟨fun pins s σ H Q I h => ?_⟩
  refine PySem.W.methodCall_KW (pl := pl) (thn (he.run pins s σ H _ I h) fun u s1 ⟨x, H1, I1, rx, a, dx, fs, ex, ea, l, q⟩ => ?_) ht
  subst ex
  obtain rfl : u = Value.ref a := rx
  refine getmeth_ok I1 ea c hm l ?_
  exact PySem.W.callWith_K0 (first := [.ref a]) I1.kIn hm.kp (run_fnS (us := [.ref a]) (vs := [.ref a]) F hr hb (hx σ) I1 (.cons rfl .nil) q)
/-- o is an instance of C without an own attribute m -/
def isIns (C m : Str) (p : PV) (S : Sto) : Bool := match p with
  | .loc l => match S[l]? with | some (.ins C' fs) => decide (C' = C) && (fs.lookup m).isNone | _ => false
  | _ => false
def methM (C m : Str) (F : FM) (mo : EM PV) (ms : EM (List PV)) : EM PV := fun τ S => bnd (mo τ S) fun p S1 => if isIns C m p S1 = true then bnd (ms τ S1) fun ps S2 => F (p :: ps) S2 else .bad
theorem isIns_rp {C m : Str} {Ca : Addr} {ι : List Addr} {H : Hp} {S : Sto} {p : PV} {x : V} (hm : X.mg C = some (.ref Ca)) (rs : RSt X.K X.mg ι H S) (rp : Rp X.K ι H p x) (h : isIns C m p S = true) : ∃ a dx fs, x = .ref a ∧ H a = some (.ins Ca dx fs) ∧ fs.lookup m = none := by
  unfold isIns at h
  split at h
  · split at h
    · rename_i eS
      rw [Bool.and_eq_true] at h
      obtain ⟨a, rfl, h1⟩ := rp
      obtain ⟨Cb, dx, ws, h2, h3, h4⟩ := rs.obj _ a _ h1 eS
      have e := of_decide_eq_true h.1
      subst e
      rw [hm] at h2; cases h2
      exact ⟨a, dx, ws, rfl, h3, RpF.lookup_none h4 (Option.isNone_iff_eq_none.mp h.2)⟩
    · cases h
  · cases h
theorem re_meth {C m : Str} {Ca fa : Addr} {n k : Nat} {F : FM} {fd : FuncData} {ps : List Str} {pl : Sem Bool} (hm : X.mg C = some (.ref Ca)) (cl : Cls X.K Ca) (me : Meth X.K Ca m fa) (G : FnOk X.prog X.w X.K X.mg X.base (L2.CX X.prog X.w) k fa fd ps (spD X.K X.mg (n + 1) F)) (hr : Room k X.A) (hb : Binds X.K fd ps []) (tk : Takes X W) (ho : RE X W o mo) (ha : RA X W (e :: es) mas)
    (hn : ∀ τ S qs S', mas τ S = .ok qs S' → qs.length = n)
    (hst : starEach (e :: es) X.env = (false, eval e X.env) :: starEach es X.env := by rfl) (hpl : (backTo pos (starEach es X.env)).any (·.1) = false := by rfl)
    (ht : eval (.Call (.Attribute o m apos) (e :: es) [] pos) X.env = (do
      let ov ← eval o X.env
      standAt apos.atName
      let (f, first) ← holding [ov] (getMethod ov m pl)
      callWith pos f first (backTo pos (starEach (e :: es) X.env)) (backToKw pos (keywordEach [] X.env))) := by rfl) :
    RE X W (.Call (.Attribute o m apos) (e :: es) [] pos) (methM C m F mo mas) := by
  refine ⟨pe_weak (pe_methW (pl := pl) (E := WE W) ho.pe cl me G hr hb (fun σ => passAt tk σ) ha.pa hst hpl ht) fun σ H Q ⟨ι, τ, S, r, ρ, pk⟩ => ⟨ι, τ, S, r, ρ, pk.next.mono fun x H1 ⟨p, ι1, S1, e1, r1, q1, pk1⟩ => ?_⟩⟩
  split at pk1
  · rename_i hi
    obtain ⟨aI, dx, fs, rfl, h1, h2⟩ := isIns_rp hm r1 q1 hi
    refine ⟨aI, dx, fs, rfl, h1, h2, ι1, τ, S1, r1, ρ.up e1, ?_⟩
    have hn' := hn τ S1
    cases hm' : mas τ S1 with
    | bad => rw [hm'] at pk1; exact pk1.elim
    | er c p S' => rw [hm'] at pk1; exact pk1
    | ok qs S2 =>
      have hl := hn' qs S2 hm'
      rw [hm'] at pk1
      show ∀ ι' H' x, Ext ι1 H1 ι' H' → RSt X.K X.mg ι' H' S2 → RpL X.K ι' H' qs x → spD X.K X.mg (n + 1) F (.ref aI :: x) H' Q (WE W σ)
      intro ι' H' x e' r' q'
      exact call_wish (ps := p :: qs) r' ⟨_, _, rfl, q1.up e', q'⟩ (by simp [hl]) (Pk.up (o := F (p :: qs) S2) pk1 e')
  · exact pk1.elim
theorem re_meth0 {C m : Str} {Ca fa : Addr} {k : Nat} {F : FM} {fd : FuncData} {ps : List Str} {pl : Sem Bool} (hm : X.mg C = some (.ref Ca)) (cl : Cls X.K Ca) (me : Meth X.K Ca m fa) (G : FnOk X.prog X.w X.K X.mg X.base (L2.CX X.prog X.w) k fa fd ps (spD X.K X.mg 1 F)) (hr : Room k X.A) (hb : Binds X.K fd ps []) (tk : Takes X W) (ho : RE X W o mo)
    (ht : eval (.Call (.Attribute o m apos) [] [] pos) X.env = (do
      let ov ← eval o X.env
      standAt apos.atName
      let (f, first) ← holding [ov] (getMethod ov m pl)
      callWith pos f first (backTo pos (starEach [] X.env)) (backToKw pos (keywordEach [] X.env))) := by rfl) :
    RE X W (.Call (.Attribute o m apos) [] [] pos) (methM C m F mo aN) := by
  refine ⟨pe_weak (pe_methW0 (pl := pl) (E := WE W) ho.pe cl me G hr hb (fun σ => passAt tk σ) ht) fun σ H Q ⟨ι, τ, S, r, ρ, pk⟩ => ⟨ι, τ, S, r, ρ, pk.next.mono fun x H1 ⟨p, ι1, S1, e1, r1, q1, pk1⟩ => ?_⟩⟩
  split at pk1
  · rename_i hi
    obtain ⟨aI, dx, fs, rfl, h1, h2⟩ := isIns_rp hm r1 q1 hi
    exact ⟨aI, dx, fs, rfl, h1, h2, call_wish (ps := [p]) r1 ⟨_, _, rfl, q1, rfl⟩ rfl (show Pk X W (rV X) σ Q ι1 H1 (F [p] S1) from pk1)⟩
  · exact pk1.elim
end
end PL
/-! PLK: own classes made, len and == of them, keywords, raise, try. -/
namespace PL
open PySem PySem.Spec PyProof.Rows L2
section
variable {X : Cx} {W : WX} {a b c e o f tg iter : Expr} {es rest : List Expr} {ma mb mc mo mf : EM PV} {tA tB' : EM Bool} {mas mks : EM (List PV)} {pos apos cpos p2 : Pos} {kws : List Keyword}
/-! ### C(e, ..) -/
theorem run_makeW {CX : CXT} {k : Nat} {C f : Addr} {fd : FuncData} {ps ks : List Str} {sp : Sp} {E : XK} {g : List Value → List Value → List Value} {gV : List V → List V → List V} {pins : List (Addr × Obj)} {σ : L2.St} {H : Hp} {s : Shared} {Q : VK} {us ws : List Value} {vs zs : List V} (M : Mk X.K C f) (F : FnOk X.prog X.w X.K X.mg X.base CX k f fd ps sp) (hr : Room (k + 1) X.A) (hb : KBinds X.K fd ps ks g gV)
    (hx : PassesAt CX X σ E) (I : Inv X pins σ H s) (r : Vals vs us) (rz : Vals zs ws)
    (h : ∀ x dx, H x = none → H dx = none → dx ≠ x → sp (gV (.ref x :: vs) zs) (upd (upd H dx (.own x)) x (.ins C dx [])) (fun v H2 => v = .non ∧ Q (.ref x) H2) E) :
    wpAny (model X.prog X.w) X.A (call (.ref C) us (ks.zip ws)) (EP X pins σ Q) X.xe s := by
  have hq := h (s.heap.objs.size + 1) s.heap.objs.size (I.hok.fresh (Nat.le_succ _)) (I.hok.fresh (Nat.le_refl _)) (Nat.ne_of_lt (Nat.lt_succ_self _))
  have I2 := Inv.made (C := C) I
  have r1 : Vals (V.ref (s.heap.objs.size + 1) :: vs) (Value.ref (s.heap.objs.size + 1) :: us) := .cons rfl r
  have r2 := hb.rel r1 rz
  have hl : (g (Value.ref (s.heap.objs.size + 1) :: us) ws).length = ps.length := by
    rw [← r2.length]; exact F.len _ _ _ _ hq
  refine wpAny_call (make_map (f := f) I.kIn M.makes M.init (beq_iff_eq.mp M.fn) (codeAny_mono (F.run _ X.stack _ _ ⟨Value.ref (s.heap.objs.size + 1) :: us, ks.zip ws⟩ (g (Value.ref (s.heap.objs.size + 1) :: us) ws) _ _ E (hr.make C us (ks.zip ws))
    (I2.env0.make C us (ks.zip ws)) (hb.to _ (Value.ref (s.heap.objs.size + 1) :: us) ws I2.kIn hl) r2 hq) fun r s' hq' => ?_))
  cases r with
  | error e => exact hx pins _ _ e s' I2 hq'
  | ok fl =>
    cases fl with
    | ret u =>
      obtain ⟨v, H', I3, rv, ev, q3⟩ := I2.after hq'
      subst ev
      exact ⟨rv, ⟨V.ref (s.heap.objs.size + 1), H', I3, rfl, q3⟩⟩
    | next => exact False.elim hq'
    | brk => exact False.elim hq'
    | cont => exact False.elim hq'
theorem KBinds.of0 {K : PySem.W.Frag} {fd : FuncData} {ps : List Str} (hb : Binds K fd ps []) : KBinds K fd ps [] (fun us _ => us) (fun vs _ => vs) :=
  ⟨fun s us ws h hl => by
    have := hb s us h (by rw [List.append_nil]; exact hl)
    rw [List.append_nil] at this
    exact this, fun r _ => r⟩
def tMakeW (C : Addr) (sp : Sp) (E : L2.St → XK) (t : TA) : TE := fun σ H Q => t σ H fun vs H1 => ∀ x dx, H1 x = none → H1 dx = none → dx ≠ x →
  sp (.ref x :: vs) (upd (upd H1 dx (.own x)) x (.ins C dx [])) (fun v H2 => v = .non ∧ Q (.ref x) H2) (E σ)
theorem pe_makeW {CX : CXT} {x : Str} {p : Pos} {k : Nat} {C f : Addr} {fd : FuncData} {ps : List Str} {sp : Sp} {E : L2.St → XK} {t : TA} (M : Mk X.K C f) (F : FnOk X.prog X.w X.K X.mg X.base CX k f fd ps sp) (hr : Room (k + 1) X.A) (hg : Gl X x) (hm : X.mg x = some (.ref C)) (hb : Binds X.K fd ps []) (hx : ∀ σ, PassesAt CX X σ (E σ))
    (ha : PA X (e :: es) t) (hdb : (x == ("__debug__" : Str)) = false := by decide) (he : starEach (e :: es) X.env = (false, eval e X.env) :: starEach es X.env := by rfl) (hpl : (backTo pos (starEach es X.env)).any (·.1) = false := by rfl) :
    PE X (.Call (.Name x p) (e :: es) [] pos) (tMakeW C sp E t) := by
  refine ⟨fun pins s σ H Q I h => ?_⟩
  refine wpAny_Call_Name_kw (ld_glob I hg hm ?_ hdb)
  refine PySem.W.callWith_K (h₀ := X.base) I.ok.mod.kin M.kp (thn (ha.run pos pins s σ H _ I h) fun us s1 ⟨vs, H1, I1, r, q⟩ => ⟨I1.kIn, ?_⟩) he hpl
  have := run_makeW (us := us) (ws := []) (zs := []) M F hr (KBinds.of0 hb) (hx σ) I1 r .nil q
  exact this
/-- the one keyword of a call without places: C(k = v) -/
def tMakeW1 (C : Addr) (sp : Sp) (E : L2.St → XK) (t : TA) : TE := fun σ H Q => t σ H fun vs H1 => ∀ x dx, H1 x = none → H1 dx = none → dx ≠ x →
  sp (.ref x :: vs) (upd (upd H1 dx (.own x)) x (.ins C dx [])) (fun v H2 => v = .non ∧ Q (.ref x) H2) (E σ)
theorem pe_makeKw {CX : CXT} {x : Str} {p : Pos} {k : Nat} {C f : Addr} {fd : FuncData} {ps ks : List Str} {sp : Sp} {E : L2.St → XK} {t : TA} {g : List Value → List Value → List Value} {gV : List V → List V → List V} (M : Mk X.K C f) (F : FnOk X.prog X.w X.K X.mg X.base CX k f fd ps sp) (hr : Room (k + 1) X.A) (hg : Gl X x) (hm : X.mg x = some (.ref C)) (hb : KBinds X.K fd ps ks g gV) (hx : ∀ σ, PassesAt CX X σ (E σ))
    (hkw : PK X kws t) (hall : (backToKw pos (keywordEach kws X.env)).all (·.1.isSome) = true := by rfl) (hks : (backToKw pos (keywordEach kws X.env)).filterMap (·.1) = ks := by rfl)
    (hdb : (x == ("__debug__" : Str)) = false := by decide)
    (hpl : ((backTo pos (starEach [] X.env)).any (·.1) || (backToKw pos (keywordEach kws X.env)).any (·.1.isNone)) = false := by rfl) :
    PE X (.Call (.Name x p) [] kws pos) (fun σ H Q => t σ H fun zs H1 => ∀ x dx, H1 x = none → H1 dx = none → dx ≠ x → sp (gV [.ref x] zs) (upd (upd H1 dx (.own x)) x (.ins C dx [])) (fun v H2 => v = .non ∧ Q (.ref x) H2) (E σ)) := by
  refine ⟨fun pins s σ H Q I h => ?_⟩
  refine wpAny_Call_Name_kw (ld_glob I hg hm ?_ hdb)
  refine PySem.W.callWith_KW0 (h₀ := X.base) I.ok.mod.kin M.kp hall (thn (hkw.run pos pins s σ H _ I h) fun ws s1 ⟨zs, H1, I1, r, q⟩ => ⟨I1.kIn, ?_⟩) hpl
  rw [hks]
  exact run_makeW (us := []) (vs := []) M F hr hb (hx σ) I1 .nil r q
structure RK (X : Cx) (W : WX) (kws : List Keyword) (m : EM (List PV)) : Prop where
  pk : PK X kws (gE X W (rL X) m)
theorem pk_weak {kws : List Keyword} {t t' : TA} (h : PK X kws t) (w : ∀ σ H Q, t' σ H Q → t σ H Q) : PK X kws t' := ⟨fun pos pins s σ H Q I hh => h.run pos pins s σ H Q I (w σ H Q hh)⟩
theorem rk_nil : RK X W [] aN := ⟨pk_weak pk_nil fun σ H Q ⟨ι, τ, S, r, ρ, pk⟩ => pk _ _ _ .refl r rfl⟩
theorem rk_cons {nm : Option Str} {kpos : Pos} (ha : RE X W e ma) (hr : RK X W kws mas) : RK X W (⟨nm, e, kpos⟩ :: kws) (aC ma mas) := by
  refine ⟨pk_weak (pk_cons ha.pe hr.pk) fun σ H Q ⟨ι, τ, S, r, ρ, pk⟩ => ⟨ι, τ, S, r, ρ, pk.next.mono fun x H1 ⟨p, ι1, S1, e1, r1, q1, pk1⟩ => ⟨ι1, τ, S1, r1, ρ.up e1, pk1.next.mono fun xs H2 ⟨ps, ι2, S2, e2, r2, q2, pk2⟩ => ?_⟩⟩⟩
  exact pk2 _ _ _ .refl r2 ⟨x, xs, rfl, q1.up e2, q2⟩
def makeM (C : Str) (F : FM) (g : List PV → List PV) (ms : EM (List PV)) : EM PV := fun τ S => bnd (ms τ S) fun ps S1 => bnd (F (.loc S1.length :: g ps) (S1 ++ [.ins C []])) fun v S2 => match v with | .non => .ok (.loc S1.length) S2 | _ => .bad
theorem make_wish {C : Str} {Ca : Addr} {n : Nat} {F : FM} {σ : L2.St} {Q : VK} {ι : List Addr} {H : Hp} {S : Sto} {ps : List PV} {vs : List V} (hm : X.mg C = some (.ref Ca)) (r : RSt X.K X.mg ι H S) (q : RpL X.K ι H ps vs) (hn : ps.length = n)
    (pk : Pk X W (rV X) σ Q ι H (bnd (F (.loc S.length :: ps) (S ++ [.ins C []])) fun v S2 => match v with | .non => .ok (.loc S.length) S2 | _ => .bad)) (x dx : Addr) (hx : H x = none) (hdx : H dx = none) (hne : dx ≠ x) :
    spD X.K X.mg (n + 1) F (.ref x :: vs) (upd (upd H dx (.own x)) x (.ins Ca dx [])) (fun v H2 => v = .non ∧ Q (.ref x) H2) (WE W σ) := by
  obtain ⟨E1, r1⟩ := r.tup (ho := .own x) hdx
  have hx1 : upd H dx (.own x) x = none := by rw [upd_ne (Ne.symm hne)]; exact hx
  have E2 : Ext ι (upd H dx (.own x)) (ι ++ [x]) (upd (upd H dx (.own x)) x (.ins Ca dx [])) := .alloc hx1
  have r2 := r1.alloc (o := .ins C []) hx1 (fun _ _ _ _ => trivial) E2 ⟨Ca, dx, [], hm, upd_same, rfl⟩
  refine ⟨ι ++ [x], S ++ [.ins C []], .loc S.length :: ps, r2, ⟨.ref x, vs, rfl, ⟨x, rfl, by rw [← r.len]; simp⟩, (q.up E1).up E2⟩, by simp [hn], ?_⟩
  unfold Pk at pk
  rw [wp_bnd] at pk
  refine wp_mono pk (fun v S' k ι' H' y e' r' q' => ?_) fun c p S' k ι' H' Ca d y e' r' m hd hp => k ι' H' Ca d y ((E1.trans E2).trans e') r' m hd hp
  cases v with
  | non => exact ⟨q', k ι' H' (.ref x) ((E1.trans E2).trans e') r' ⟨x, rfl, e'.pre _ _ (by rw [← r.len]; simp)⟩⟩
  | _ => exact k.elim
theorem re_make {C : Str} {p : Pos} {n k : Nat} {F : FM} {Ca fa : Addr} {fd : FuncData} {ps : List Str} (M : Mk X.K Ca fa) (G : FnOk X.prog X.w X.K X.mg X.base (L2.CX X.prog X.w) k fa fd ps (spD X.K X.mg (n + 1) F)) (hr : Room (k + 1) X.A) (hg : Gl X C) (hm : X.mg C = some (.ref Ca)) (hb : Binds X.K fd ps []) (tk : Takes X W)
    (ha : RA X W (e :: es) mas) (hn : ∀ τ S qs S', mas τ S = .ok qs S' → qs.length = n) (hdb : (C == ("__debug__" : Str)) = false := by decide) (he : starEach (e :: es) X.env = (false, eval e X.env) :: starEach es X.env := by rfl) (hpl : (backTo pos (starEach es X.env)).any (·.1) = false := by rfl) :
    RE X W (.Call (.Name C p) (e :: es) [] pos) (makeM C F id mas) := by
  refine ⟨pe_weak (pe_makeW (E := WE W) M G hr hg hm hb (fun σ => passAt tk σ) ha.pa hdb he hpl) fun σ H Q ⟨ι, τ, S, r, ρ, pk⟩ => ⟨ι, τ, S, r, ρ, ?_⟩⟩
  have hn' := hn τ S
  unfold makeM at pk
  cases hm' : mas τ S with
  | bad => rw [hm'] at pk; exact pk.elim
  | er c p S' => rw [hm'] at pk; exact pk
  | ok qs S1 =>
    have hl := hn' qs S1 hm'
    rw [hm'] at pk
    show ∀ ι' H' x, Ext ι H ι' H' → RSt X.K X.mg ι' H' S1 → RpL X.K ι' H' qs x → _
    intro ι' H' vs e' r' q' x dx hx hdx hne
    exact make_wish hm r' q' hl (Pk.up (o := bnd (F (.loc S1.length :: qs) (S1 ++ [.ins C []])) _) pk e') x dx hx hdx hne
/-- C(k = v, ..): the keywords put in the order of the parameters by g -/
theorem re_makeKw {C : Str} {p : Pos} {n k : Nat} {F : FM} {Ca fa : Addr} {fd : FuncData} {ps ks : List Str} {g : List Value → List Value → List Value} {gV : List V → List V → List V} {gP : List PV → List PV} (M : Mk X.K Ca fa) (G : FnOk X.prog X.w X.K X.mg X.base (L2.CX X.prog X.w) k fa fd ps (spD X.K X.mg (n + 1) F)) (hr : Room (k + 1) X.A) (hg : Gl X C) (hm : X.mg C = some (.ref Ca)) (hb : KBinds X.K fd ps ks g gV) (tk : Takes X W)
    (hgp : ∀ ι H qs zs v, qs.length = n → RpL X.K ι H qs zs → ∃ vs, gV [v] zs = v :: vs ∧ RpL X.K ι H (gP qs) vs ∧ (gP qs).length = n)
    (ha : RK X W kws mas) (hn : ∀ τ S qs S', mas τ S = .ok qs S' → qs.length = n) (hall : (backToKw pos (keywordEach kws X.env)).all (·.1.isSome) = true := by rfl) (hks : (backToKw pos (keywordEach kws X.env)).filterMap (·.1) = ks := by rfl)
    (hdb : (C == ("__debug__" : Str)) = false := by decide)
    (hpl : ((backTo pos (starEach [] X.env)).any (·.1) || (backToKw pos (keywordEach kws X.env)).any (·.1.isNone)) = false := by rfl) :
    RE X W (.Call (.Name C p) [] kws pos) (makeM C F gP mas) := by
  refine ⟨pe_weak (pe_makeKw (E := WE W) M G hr hg hm hb (fun σ => passAt tk σ) ha.pk hall hks hdb hpl) fun σ H Q ⟨ι, τ, S, r, ρ, pk⟩ => ⟨ι, τ, S, r, ρ, ?_⟩⟩
  have hn' := hn τ S
  unfold makeM at pk
  cases hm' : mas τ S with
  | bad => rw [hm'] at pk; exact pk.elim
  | er c p S' => rw [hm'] at pk; exact pk
  | ok qs S1 =>
    have hl := hn' qs S1 hm'
    rw [hm'] at pk
    show ∀ ι' H' x, Ext ι H ι' H' → RSt X.K X.mg ι' H' S1 → RpL X.K ι' H' qs x → _
    intro ι' H' zs e' r' q' x dx hx hdx hne
    obtain ⟨vs, ev, qv, ln⟩ := hgp ι' H' qs zs (.ref x) hl q'
    rw [ev]
    exact make_wish hm r' qv ln (Pk.up (o := bnd (F (.loc S1.length :: gP qs) (S1 ++ [.ins C []])) _) pk e') x dx hx hdx hne
/-! ### o.m(k = v, ..) -/
theorem pe_methKw {CX : CXT} {k : Nat} {C f : Addr} {fd : FuncData} {ps ks : List Str} {sp : Sp} {E : L2.St → XK} {m : Str} {ta : TE} {t : TA} {pl : Sem Bool} {g : List Value → List Value → List Value} {gV : List V → List V → List V} (he : PE X o ta) (c : Cls X.K C) (hm : Meth X.K C m f) (F : FnOk X.prog X.w X.K X.mg X.base CX k f fd ps sp) (hr : Room k X.A) (hb : KBinds X.K fd ps ks g gV) (hx : ∀ σ, PassesAt CX X σ (E σ)) (hkw : PK X kws t)
    (hall : (backToKw pos (keywordEach kws X.env)).all (·.1.isSome) = true := by rfl) (hks : (backToKw pos (keywordEach kws X.env)).filterMap (·.1) = ks := by rfl)
    (hpl : ((backTo pos (starEach [] X.env)).any (·.1) || (backToKw pos (keywordEach kws X.env)).any (·.1.isNone)) = false := by rfl)
    (ht : eval (.Call (.Attribute o m apos) [] kws pos) X.env = (do
      let ov ← eval o X.env
      standAt apos.atName
      let (f, first) ← holding [ov] (getMethod ov m pl)
      callWith pos f first (backTo pos (starEach [] X.env)) (backToKw pos (keywordEach kws X.env))) := by rfl) :
    PE X (.Call (.Attribute o m apos) [] kws pos) (fun σ H Q => ta σ H fun x H1 => ∃ a dx fs, x = .ref a ∧ H1 a = some (.ins C dx fs) ∧ fs.lookup m = none ∧ t σ H1 fun zs H2 => sp (gV [x] zs) H2 Q (E σ)) := by
  refine ⟨fun pins s σ H Q I h => ?_⟩
  refine PySem.W.methodCall_KW (pl := pl) (thn (he.run pins s σ H _ I h) fun u s1 ⟨x, H1, I1, rx, a, dx, fs, ex, ea, l, q⟩ => ?_) ht
  subst ex
  obtain rfl : u = Value.ref a := rx
  refine getmeth_ok I1 ea c hm l ?_
  refine PySem.W.callWith_KW0 (first := [.ref a]) (h₀ := X.base) I.ok.mod.kin hm.kp hall (thn (hkw.run pos pins s1 σ H1 _ I1 q) fun ws s2 ⟨zs, H2, I2, r, q2⟩ => ⟨I2.kIn, ?_⟩) hpl
  rw [hks, List.append_nil]
  have r1 : Vals [V.ref a] [Value.ref a] := .cons rfl .nil
  have r2 := hb.rel r1 r
  have hl : (g [Value.ref a] ws).length = ps.length := by rw [← r2.length]; exact F.len _ _ _ _ q2
  refine wpAny_call (codeAny_mono (F.run X.A X.stack s2 H2 ⟨[.ref a], ks.zip ws⟩ (g [.ref a] ws) (gV [.ref a] zs) Q (E σ) hr I2.env0 (hb.to s2 [.ref a] ws I2.kIn hl) r2 q2) fun r s' hq => ?_)
  cases r with
  | error e => exact hx σ pins H2 s2 e s' I2 hq
  | ok fl =>
    cases fl with
    | ret u => exact I2.after hq
    | next => exact False.elim hq
    | brk => exact False.elim hq
    | cont => exact False.elim hq
def methKM (C m : Str) (F : FM) (g : List PV → List PV) (mo : EM PV) (ms : EM (List PV)) : EM PV := fun τ S => bnd (mo τ S) fun p S1 => if isIns C m p S1 = true then bnd (ms τ S1) fun ps S2 => F (p :: g ps) S2 else .bad
theorem re_methKw {C m : Str} {Ca fa : Addr} {n k : Nat} {F : FM} {fd : FuncData} {ps ks : List Str} {pl : Sem Bool} {g : List Value → List Value → List Value} {gV : List V → List V → List V} {gP : List PV → List PV} (hm : X.mg C = some (.ref Ca)) (cl : Cls X.K Ca) (me : Meth X.K Ca m fa) (G : FnOk X.prog X.w X.K X.mg X.base (L2.CX X.prog X.w) k fa fd ps (spD X.K X.mg (n + 1) F)) (hr : Room k X.A) (hb : KBinds X.K fd ps ks g gV) (tk : Takes X W) (ho : RE X W o mo)
    (hgp : ∀ ι H qs zs v, qs.length = n → RpL X.K ι H qs zs → ∃ vs, gV [v] zs = v :: vs ∧ RpL X.K ι H (gP qs) vs ∧ (gP qs).length = n)
    (ha : RK X W kws mas) (hn : ∀ τ S qs S', mas τ S = .ok qs S' → qs.length = n) (hall : (backToKw pos (keywordEach kws X.env)).all (·.1.isSome) = true := by rfl) (hks : (backToKw pos (keywordEach kws X.env)).filterMap (·.1) = ks := by rfl)
    (hpl : ((backTo pos (starEach [] X.env)).any (·.1) || (backToKw pos (keywordEach kws X.env)).any (·.1.isNone)) = false := by rfl)
    (ht : eval (.Call (.Attribute o m apos) [] kws pos) X.env = (do
      let ov ← eval o X.env
      standAt apos.atName
      let (f, first) ← holding [ov] (getMethod ov m pl)
      callWith pos f first (backTo pos (starEach [] X.env)) (backToKw pos (keywordEach kws X.env))) := by rfl) :
    RE X W (.Call (.Attribute o m apos) [] kws pos) (methKM C m F gP mo mas) := by
  refine ⟨pe_weak (pe_methKw (pl := pl) (E := WE W) ho.pe cl me G hr hb (fun σ => passAt tk σ) ha.pk hall hks hpl ht) fun σ H Q ⟨ι, τ, S, r, ρ, pk⟩ => ⟨ι, τ, S, r, ρ, pk.next.mono fun x H1 ⟨p, ι1, S1, e1, r1, q1, pk1⟩ => ?_⟩⟩
  split at pk1
  · rename_i hi
    obtain ⟨aI, dx, fs, rfl, h1, h2⟩ := isIns_rp hm r1 q1 hi
    refine ⟨aI, dx, fs, rfl, h1, h2, ι1, τ, S1, r1, ρ.up e1, ?_⟩
    have hn' := hn τ S1
    cases hm' : mas τ S1 with
    | bad => rw [hm'] at pk1; exact pk1.elim
    | er c p S' => rw [hm'] at pk1; exact pk1
    | ok qs S2 =>
      have hl := hn' qs S2 hm'
      rw [hm'] at pk1
      show ∀ ι' H' x, Ext ι1 H1 ι' H' → RSt X.K X.mg ι' H' S2 → RpL X.K ι' H' qs x → spD X.K X.mg (n + 1) F (gV [.ref aI] x) H' Q (WE W σ)
      intro ι' H' zs e' r' q'
      obtain ⟨vs, ev, qv, ln⟩ := hgp ι' H' qs zs (.ref aI) hl q'
      rw [ev]
      exact call_wish (ps := p :: gP qs) r' ⟨_, _, rfl, q1.up e', qv⟩ (by simp [ln]) (Pk.up (o := F (p :: gP qs) S2) pk1 e')
  · exact pk1.elim
/-! ### len(o), o == u of own classes -/
def lenOwnM (C : Str) (F : FM) (m : EM PV) : EM PV := fun τ S => bnd (m τ S) fun p S1 => if isIns C "" p S1 = true then bnd (F [p] S1) fun v S2 => (match v with | .int n => if 0 ≤ n ∧ n < 4611686018427387904 then .ok (.int n) S2 else .bad | _ => .bad) else .bad
theorem re_lenOwn {C : Str} {p : Pos} {k : Nat} {F : FM} {Ca fa : Addr} {fd : FuncData} {ps : List Str} (hm : X.mg C = some (.ref Ca)) (hs : PySem.W.findIn X.K (.ref Ca) "__len__" = some (some (.ref fa))) (hf : PySem.W.isFn X.K (.ref fa) = true)
    (G : FnOk X.prog X.w X.K X.mg X.base (L2.CX X.prog X.w) k fa fd ps (spD X.K X.mg 1 F)) (hr : Room (k + 1) X.A) (hb : Binds X.K fd ps []) (tk : Takes X W) (hg : Gl X "len") (hml : X.mg "len" = none) (ha : RE X W a ma)
    (he : starEach [a] X.env = (false, eval a X.env) :: starEach [] X.env := by rfl) (hpl : (backTo pos (starEach [] X.env)).any (·.1) = false := by rfl) : RE X W (.Call (.Name "len" p) [a] [] pos) (lenOwnM C F ma) := by
  have hc : PE X (.Call (.Name "len" p) [a] [] pos) (fun σ H Q => gE X W (rV X) ma σ H fun x H1 => ∃ ad dx fs, x = .ref ad ∧ H1 ad = some (.ins Ca dx fs) ∧ spD X.K X.mg 1 F [x] H1 (fun v H2 => ∃ n : Int, v = .int n ∧ (0 ≤ n ∧ n < 4611686018427387904) ∧ Q (.int n) H2) (WE W σ)) := by
    refine ⟨fun pins s σ H Q I h => ?_⟩
    refine wpAny_Call_Name_kw (ld_blt I hg hml boot_len ?_)
    refine PyProof.Rows.callWith_builtin1 (PyProof.Rows.args_cons (thn (ha.pe.run pins s σ H _ I h) fun v s1 ⟨x, H1, I1, r1, q1⟩ => PyProof.Rows.args_nil ?_) he) he hpl
    obtain ⟨ad, dx, fs, rfl, h1, hsp⟩ := q1
    cases r1
    obtain ⟨mA, J, _⟩ := ins_get I1.hok h1
    obtain ⟨od, J, _⟩ := J.look
    obtain ⟨m, hF⟩ := I1.fr
    refine PySem.W.len_K hF I1.ok.mod.kin J hs hf ?_
    have hl := G.len _ _ _ _ hsp
    have e0 : Env0 X.prog X.w X.K X.mg X.base X.A.in1 X.stack s1 H1 := I1.env0.in1
    have r2 : Vals [V.ref ad] [Value.ref ad] := .cons rfl .nil
    refine wpAny_call (codeAny_mono (G.run X.A.in1 X.stack s1 H1 ⟨[.ref ad], []⟩ [.ref ad] [.ref ad] _ (WE W σ) hr.in1 e0 (by
      have := hb s1 [.ref ad] I1.kIn (by simpa using hl)
      simpa using this) r2 hsp) fun r s' hq => ?_)
    cases r with
    | error e => exact passAt tk σ pins H1 s1 e s' I1 hq
    | ok fl =>
      cases fl with
      | ret w =>
        obtain ⟨z, H', I', rz, n, ez, hn, q⟩ := I1.after hq
        subst ez
        obtain ⟨t, rfl⟩ := rz
        refine ⟨⟨hn.1, by omega⟩, ?_⟩
        exact ⟨.int n, H', I'.tok _, ⟨_, rfl⟩, q⟩
      | next => exact False.elim hq
      | brk => exact False.elim hq
      | cont => exact False.elim hq
  refine ⟨pe_weak hc fun σ H Q ⟨ι, τ, S, r, ρ, pk⟩ => ⟨ι, τ, S, r, ρ, pk.next.mono fun x H1 ⟨p, ι1, S1, e1, r1, q1, pk1⟩ => ?_⟩⟩
  split at pk1
  · rename_i hi
    obtain ⟨aI, dx, fs, rfl, h1, h2⟩ := isIns_rp hm r1 q1 hi
    refine ⟨aI, dx, fs, rfl, h1, ι1, S1, [p], r1, ⟨_, _, rfl, q1, rfl⟩, rfl, ?_⟩
    unfold Pk at pk1
    rw [wp_bnd] at pk1
    refine wp_mono pk1 (fun v S' k ι' H' y e' r' q' => ?_) fun c p S' k ι' H' Ca d y e' r' m hd hp => k ι' H' Ca d y e' r' m hd hp
    cases v with
    | int n =>
      simp only at k
      split at k
      · rename_i hn
        exact ⟨n, q', hn, k ι' H' _ e' r' rfl⟩
      · exact k.elim
    | _ => exact k.elim
  · exact pk1.elim
end
end PL
/-! PLM: len(set(t)), t a tuple of texts and ints. -/
namespace PL
open PySem PySem.Spec PyProof.Rows L2
/-- each key once, in the order in which it is met first -/
def onceK (acc : List Key) : List Key → List Key
  | [] => acc
  | k :: r => onceK (if acc.any (fun j => decide (j = k)) then acc else acc ++ [k]) r
theorem setOf_same {prog : Program} {w : World} {h : Heap} {a : Addr} {S S' : Key → Bool} {n n' : Nat} (hS : h.SetOf (mixKind prog w) a S n) (e : ∀ k, S k = S' k) (en : n = n') : h.SetOf (mixKind prog w) a S' n' := by
  obtain rfl : S = S' := funext e
  subst en
  exact hS
theorem onceK_app (k : Key) : ∀ (ks acc : List Key), onceK acc (ks ++ [k]) = (if (onceK acc ks).any (fun j => decide (j = k)) then onceK acc ks else onceK acc ks ++ [k])
  | [], acc => rfl
  | j :: ks, acc => by
    show onceK _ (ks ++ [k]) = _
    rw [onceK_app k ks]
    rfl
theorem onceK_len : ∀ (ks acc : List Key), (onceK acc ks).length ≤ acc.length + ks.length
  | [], acc => Nat.le_refl _
  | k :: ks, acc => by
    have := onceK_len ks (if acc.any (fun j => decide (j = k)) then acc else acc ++ [k])
    unfold onceK
    rw [List.length_cons]
    split at this <;> simp_all <;> omega
section
variable {prog : Program} {w : World} {A : Around} {R : Result → Shared → Prop} {I : Addr} {fp wr : List Addr} {G : Array GenState → Array GenState → Prop} {n : Nat} {P : Nat → Value → Prop} {St : Nat → Shared → Prop}
theorem setLoopK (W : WalksS prog w A.in1 I fp wr G n P St) (S : Addr) (hSf : S ∉ fp) (ks : List Key) (hsz : ks.length = n) (hb : n + 1 < scanBound)
    (hval : ∀ i v, P i v → ∃ k, ks[i]? = some k ∧ keyIs k v = true) :
    ∀ (m i : Nat) (s : Shared), n - i = m → i ≤ n → St i s → s.heap.SetOf (mixKind prog w) S (fun j => (onceK [] (ks.take i)).any (fun x => decide (x = j))) (onceK [] (ks.take i)).length →
      (∀ s', Moved (S :: wr) G s s' → s'.heap.SetOf (mixKind prog w) S (fun j => (onceK [] ks).any (fun x => decide (x = j))) (onceK [] ks).length → R (.ok (.ret .none)) s') →
      codeAny (model prog w) A (.builtin "set.update.loop" ⟨[.ref S, .ref I], []⟩) R s := by
  have nw : S ∉ wr := fun h => hSf (W.sub _ h)
  have up : ∀ b ∈ wr, b ∈ S :: wr := fun b hb => List.mem_cons_of_mem _ hb
  intro m
  induction m with
  | zero =>
    intro i s hm hi st hS hR
    obtain rfl : i = n := by omega
    rw [List.take_of_length_le (Nat.le_of_eq hsz)] at hS
    refine codeAny_builtin PyProof.Rows.F.entry_set_update_loop ?_
    rw [Around.under_plainId PyProof.Rows.F.plain_set_update_loop _]
    refine (wpAny_bind (W.done s _ _ st fun s' mv => ?_) : wpAny _ A.in1 (pyNext (.ref I) >>= _) _ _ s)
    have fin : s'.heap.SetOf (mixKind prog w) S (fun j => (onceK [] ks).any (fun x => decide (x = j))) (onceK [] ks).length := by
      obtain ⟨o, es, ep, t, ho, more⟩ := hS
      exact ⟨o, es, ep, t, mv.heap S _ nw ho, more⟩
    show wpAny _ A.in1 (ret Value.none) _ _ s'
    exact wpAny_pure (hR s' (mv.mono up) fin)
  | succ m ih =>
    intro i s hm hi st hS hR
    have lt : i < n := by omega
    refine codeAny_builtin PyProof.Rows.F.entry_set_update_loop ?_
    rw [Around.under_plainId PyProof.Rows.F.plain_set_update_loop _]
    refine (wpAny_bind (W.item i s _ _ lt st fun v s' hP st' mv => ?_) : wpAny _ A.in1 (pyNext (.ref I) >>= _) _ _ s)
    obtain ⟨k, hk, kis⟩ := hval i v hP
    have hS1 : s'.heap.SetOf (mixKind prog w) S (fun j => (onceK [] (ks.take i)).any (fun x => decide (x = j))) (onceK [] (ks.take i)).length := by
      obtain ⟨o, es, ep, t, ho, more⟩ := hS
      exact ⟨o, es, ep, t, mv.heap S _ nw ho, more⟩
    have scan : v.scannable = true := by
      rcases keyIs_shape kis with ⟨j, t, _, rfl⟩ | ⟨x, t, _, rfl⟩ <;> rfl
    have room : (onceK [] (ks.take i)).length + 1 < scanBound := by
      have h1 := onceK_len (ks.take i) []
      have h2 : (ks.take i).length ≤ i := by rw [List.length_take]; omega
      simp at h1
      omega
    refine (wpAny_bind (wpAny_holding ?_) : wpAny _ A.in1 (holding [v] (setAdd S v) >>= _) _ _ s')
    unfold setAdd
    refine wpAny_holding (wpAny_bind ((mixKind prog w).pyHash (k := k) kis ?_))
    refine wpAny_setAddHashed_of (knd := mixKind prog w) (s := { s' with toks := s'.toks + 1 }) kis scan hS1 room fun h' sb hS2 => ?_
    have tk : ks.take (i + 1) = ks.take i ++ [k] := by rw [List.take_add_one, hk]; rfl
    have hS3 : h'.SetOf (mixKind prog w) S (fun j => (onceK [] (ks.take (i + 1))).any (fun x => decide (x = j))) (onceK [] (ks.take (i + 1))).length := by
      rw [tk, onceK_app]
      refine setOf_same hS2 (fun j => ?_) ?_
      · by_cases c : (onceK [] (ks.take i)).any (fun x => decide (x = k)) = true
        · rw [if_pos c]
          by_cases e : j = k
          · subst e; rw [c]; rfl
          · simp [e]
        · rw [if_neg c, List.any_append]
          by_cases e : j = k
          · subst e; simp
          · have e' : ¬ k = j := fun z => e z.symm
            simp [e, e']
      · by_cases c : (onceK [] (ks.take i)).any (fun x => decide (x = k)) = true
        · rw [if_pos c, if_pos c]
        · rw [if_neg c, if_neg c, List.length_append]; rfl
    refine wpAny_pure ⟨plainId_quiet PyProof.Rows.F.plain_set_update_loop _, ih (i + 1) _ (by omega) lt (W.frame _ s' _ _ st' (Nat.le_succ _) fun b hb o e => ?_) hS3 fun s2 mv2 hS4 => ?_⟩
    · exact (sb.2 b fun z : b = S => hSf (z ▸ hb)).trans e
    · exact hR s2 (Moved.trans W.gtrans ((mv.mono up).then_heap (Nat.le_succ _) fun b o hb e => (sb.2 b fun z : b = S => hb (by rw [z]; exact List.mem_cons_self)).trans e) mv2) hS4
end
section
variable {prog : Program} {w : World} {A : Around} {E : Value → Shared → Prop} {s : Shared}
set_option maxHeartbeats 3200000 in
theorem call_setK {l : Addr} {items : Array Value} {ks : List Key} {Q : Value → Shared → Prop} (hh : A.handled = none) (hl : s.heap.IsTuple l items) (hi : ks.length = items.size) (hk : ∀ (i : Nat) v, items[i]? = some v → ∃ k, ks[i]? = some k ∧ keyIs k v = true) (hn : items.size + 1 < scanBound)
    (h : ∀ (h' : Heap) (tk : Nat), h'.SetOf (mixKind prog w) s.heap.objs.size (fun j => (onceK [] ks).any (fun x => decide (x = j))) (onceK [] ks).length → (∀ b o, b < s.heap.objs.size → s.heap.get? b = some o → h'.get? b = some o) → Q (.ref s.heap.objs.size) { s with heap := h', toks := tk }) :
    wpAny (model prog w) A (call (.type "set") [.ref l]) Q E s := by
  obtain ⟨c, tl, hmro⟩ := PySem.F.called_set.mro
  have x1 := PySem.F.called_set.made
  have x2 := PySem.F.called_set.sub
  have x3 := PySem.F.called_set.notType
  have x4 := PySem.F.called_set.canCreate
  have x5 := PySem.F.typeCall_set_1 (.ref l)
  refine wpAny_call (codeAny_of_tree ((wpAny_pure ⟨Code.quiet_builtin _ (by decide +kernel), codeAny_builtin PySem.F.entry_type_call ?_⟩ : wpAny _ _ (callAny (.type "set") _) _ _ _)))
  rw [Around.under_plain (weight_type_call_type "set" [.ref l] []) rfl]
  repeat (any_goals (first | assumption | wp_step))
  refine codeAny_mono (code_set_new_1 (.ref l) (E := E) (Q₁ := fun obj s₁ => ∃ led : Bool, obj = .ref s.heap.objs.size ∧ s₁ = { s with heap := s.heap.push { cls := .type "set", dict := none, data := .set #[] 0 (.fresh 0 0 led) } }) fun led => ⟨led, rfl, rfl⟩) fun r s₁ hr => ?_
  cases r with
  | error e => exact hr
  | ok fl =>
    cases fl with
    | ret obj =>
      obtain ⟨led, rfl, rfl⟩ := hr
      have hS := Heap.get?_push_size (o := ({ cls := .type "set", dict := none, data := .set #[] 0 (.fresh 0 0 led) } : Obj)) s.heap rfl
      have hT : Shared.TypeIs { s with heap := s.heap.push { cls := .type "set", dict := none, data := .set #[] 0 (.fresh 0 0 led) } } (.ref s.heap.objs.size) "set" := ⟨_, hS, rfl⟩
      have y1 := PySem.F.called_set.init.lookup
      have y2 := PySem.F.called_set.init.bind (.ref s.heap.objs.size)
      repeat (any_goals (first | assumption | wp_step))
      refine codeAny_mono (codeAny_call_builtin (R := wants (fun r s₂ => r = .none ∧ ∃ h' tk, s₂ = { s with heap := h', toks := tk } ∧ h'.SetOf (mixKind prog w) s.heap.objs.size (fun j => (onceK [] ks).any (fun x => decide (x = j))) (onceK [] ks).length ∧
          (∀ b o, b < s.heap.objs.size → s.heap.get? b = some o → h'.get? b = some o)) E) PySem.F.called_set.init.plain PySem.F.entry_set_init (check_set_init_1 hT ?_)) fun r₂ s₂ hr₂ => ?_
      · obtain ⟨⟨oc, od, odt, osl⟩, hol, hcl, nl, hdl⟩ := hl
        simp only at hcl hdl
        subst hcl; subst hdl
        have hol' : (s.heap.push { cls := .type "set", dict := none, data := .set #[] 0 (.fresh 0 0 led) }).get? l = some { cls := .type "tuple", dict := od, data := .seq items nl, slots := osl } := Heap.get?_push_of_some _ hol
        have z1 := PySem.F.sub_tuple_set
        have z2 := PySem.F.sub_tuple_frozenset
        have z3 : (Value.type "tuple" == Value.type "dict") = false := by decide
        have hl1 : (s.heap.push { cls := .type "set", dict := none, data := .set #[] 0 (.fresh 0 0 led) }).IsTuple l items := ⟨_, hol', rfl, nl, rfl⟩
        unfold Builtin.«set.__init__» noKeywords Builtin.Frozenset.updateFrom
        generalize hPI : pyIter = PI
        wp_walk
        subst hPI
        refine wpAny_pyIter_tuple hl1 (wpAny_bind (wpAny_runValue ?_))
        have lS : l < s.heap.objs.size := Heap.lt_size hol
        have hd3 : A.in1.in1.in1.handled = none := by simp [hh]
        have neI : l ≠ (s.heap.push { cls := .type "set", dict := none, data := .set #[] 0 (.fresh 0 0 led) }).objs.size := by
          rw [Heap.size_push]; exact Nat.ne_of_lt (Nat.lt_succ_of_lt lS)
        have nf : s.heap.objs.size ∉ [(s.heap.push { cls := .type "set", dict := none, data := .set #[] 0 (.fresh 0 0 led) }).objs.size, l] := by
          rw [Heap.size_push]; simp only [List.mem_cons, List.mem_singleton, List.not_mem_nil, or_false, not_or]
          exact ⟨Nat.ne_of_lt (Nat.lt_succ_self _), Nat.ne_of_gt lS⟩
        refine setLoopK ((Walks.tuple hd3 _ l neI items).toS) s.heap.objs.size nf ks hi hn (fun i v hv => hk i v hv) (items.size - 0) 0 _ (by omega) (Nat.zero_le _) ⟨⟨_, Heap.get?_push_size _ rfl, rfl, rfl⟩, (hl1.push _)⟩ ?hS0 ?hR
        case hS0 =>
          have hg : ((s.heap.push { cls := .type "set", dict := none, data := .set #[] 0 (.fresh 0 0 led) }).push { cls := .type "tuple_iterator", data := .fields #[.ref l, .int 0 0] }).get? s.heap.objs.size
              = some { cls := .type "set", dict := none, data := .set #[] 0 (.fresh 0 0 led) } := Heap.get?_push_of_some _ hS
          exact ⟨_, #[], 0, _, hg, ⟨rfl, rfl, rfl⟩, rfl, fun e he => by simp at he, fun k => by simp [onceK], by decide, by rfl, rfl⟩
        case hR =>
          intro s' mv hS'
          obtain ⟨h', g', d', tk', os'⟩ := s'
          have eg : g' = s.gens := mv.gens
          have ed : d' = s.drawn := mv.drawn
          have eo : os' = s.os := mv.os
          subst eg; subst ed; subst eo
          show wpAny _ _ _ _ _ _
          refine wpAny_pure ?_
          show wpAny _ _ (ret Value.none) _ _ _
          refine wpAny_pure ⟨rfl, h', tk', rfl, hS', fun b o hb e => ?_⟩
          refine mv.heap b o ?_ (Heap.get?_push_of_some _ (Heap.get?_push_of_some _ e))
          rw [Heap.size_push]
          simp only [List.mem_cons, List.mem_singleton, List.not_mem_nil, or_false, not_or]
          exact ⟨Nat.ne_of_lt hb, Nat.ne_of_lt (Nat.lt_succ_of_lt hb)⟩
      · cases r₂ with
        | error e => exact hr₂
        | ok fl₂ =>
          cases fl₂ with
          | ret r =>
            obtain ⟨rfl, h', tk, rfl, hS', hk'⟩ := hr₂
            repeat (any_goals (first | assumption | wp_step))
            exact h _ _ hS' hk'
          | _ => exact hr₂.elim
    | _ => exact hr.elim
end
/-- keys -/
def keysP : List PV → Option (List Key)
  | [] => some []
  | x :: r => (keyP x).bind fun k => (keysP r).map fun ks => k :: ks
def lenSetM (m : EM PV) : EM PV := fun τ S => bnd (m τ S) fun p S1 => match p with
  | .tup xs => (match keysP xs with | some ks => if ks.length ≤ 4000 then .ok (.int (onceK [] ks).length) S1 else .bad | none => .bad)
  | _ => .bad
theorem keys_at {K : PySem.W.Frag} {ι : List Addr} {H : Hp} : ∀ {xs : List PV} {ks : List Key} {vs : List V} {us : List Value}, keysP xs = some ks → RpL K ι H xs vs → Vals vs us → ks.length = us.length ∧ ∀ (i : Nat) v, us[i]? = some v → ∃ k, ks[i]? = some k ∧ keyIs k v = true
  | [], ks, _, _, e, h, r => by
    cases e
    cases (show _ = _ from h)
    cases r
    exact ⟨rfl, fun i v h => by simp at h⟩
  | x :: xs, ks, _, _, e, h, r => by
    obtain ⟨v, w, rfl, h1, h2⟩ := h
    unfold keysP at e
    cases q : keyP x with
    | none => rw [q] at e; cases e
    | some k =>
      cases q2 : keysP xs with
      | none => rw [q, q2] at e; cases e
      | some ks' =>
        rw [q, q2] at e
        cases e
        cases r with
        | cons r1 r2 =>
          obtain ⟨l, f⟩ := keys_at q2 h2 r2
          refine ⟨by simp [l], fun i v' hv => ?_⟩
          cases i with
          | zero =>
            simp at hv; subst hv
            refine ⟨k, rfl, ?_⟩
            cases key_rp h1 q
            cases k with
            | inl i => obtain ⟨t, rfl⟩ := r1; exact keyIs_int i t
            | inr x => obtain ⟨t, rfl⟩ := r1; exact keyIs_str x t
          | succ i => exact f i v' (by simpa using hv)
theorem re_lenSet {X : Cx} {W : WX} {a : Expr} {ma : EM PV} {p p2 q pos : Pos} (hc : X.calm = true) (hg : Gl X "len") (hm : X.mg "len" = none) (hg2 : Gl X "set") (hm2 : X.mg "set" = none) (ha : RE X W a ma)
    (na : starEach [a] X.env = (false, eval a X.env) :: starEach [] X.env := by rfl) : RE X W (.Call (.Name "len" p) [.Call (.Name "set" p2) [a] [] q] [] pos) (lenSetM ma) := by
  have h0 : PE X (.Call (.Name "len" p) [.Call (.Name "set" p2) [a] [] q] [] pos) (fun σ H Q => gE X W (rV X) ma σ H fun x H1 => ∃ ad vs ks, x = .ref ad ∧ FzT X.K H1 ad vs ∧ (∀ us, Vals vs us → ks.length = us.length ∧ ∀ (i : Nat) v, us[i]? = some v → ∃ k, ks[i]? = some k ∧ keyIs k v = true) ∧ ks.length ≤ 4000 ∧ Q (.int (onceK [] ks).length) H1) := by
    refine ⟨fun pins s σ H Q I h => ?_⟩
    refine Call_ (ld_blt I hg hm boot_len (PyProof.Rows.callWith_builtin1 (PyProof.Rows.args_cons ?_ rfl) rfl rfl))
    refine Call_ (ld_blt I hg2 hm2 boot_set ?_)
    refine PyProof.Rows.callWith_type1 (PyProof.Rows.args_cons (thn (ha.pe.run pins s σ H _ I h) fun v s1 ⟨x, H1, I1, r1, ad, vs, ks, ex, hq, hks, hl, q1⟩ => PyProof.Rows.args_nil ?_) na) na rfl
    subst ex
    cases r1
    obtain ⟨its, r, pl, hz⟩ := I1.tuple hq.seq
    obtain ⟨k1, k2⟩ := hks its r
    refine call_setK (ks := ks) (I1.ok.hd hc) pl (by simpa using k1) (fun i v hv => k2 i v (by simpa using hv)) (by
      show its.toArray.size + 1 < 4096
      rw [List.size_toArray, ← k1]; omega) fun h' tk hS hk => ?_
    refine PyProof.Rows.args_nil ?_
    have hlen := onceK_len ks []
    obtain ⟨o, es, ep, t, ho, hex, hd, _, _, _, hf, hn⟩ := hS
    have I2 : Inv X pins σ H1 { s1 with heap := h', toks := tk } := I1.kept fun b o e => hk b o (Heap.lt_size e) e
    refine call_len_set ho hex hd hf (by rw [hn]; simp at hlen; omega) ⟨.int (onceK [] ks).length, H1, I2.tok _, ⟨_, by rw [hn]⟩, q1⟩
  refine ⟨pe_weak h0 fun σ H Q ⟨ι, τ, S, r, ρ, pk⟩ => ⟨ι, τ, S, r, ρ, pk.next.mono fun x H1 ⟨p, ι1, S1, e1, r1, q1, pk1⟩ => ?_⟩⟩
  split at pk1
  · split at pk1
    · rename_i ks hks
      split at pk1
      · rename_i hl
        obtain ⟨ad, vs, rfl, h1, h2⟩ := q1
        exact ⟨ad, vs, ks, rfl, h1, fun us r => keys_at hks h2 r, hl, pk1 _ _ _ .refl r1 rfl⟩
      · exact pk1.elim
    · exact pk1.elim
  · exact pk1.elim
end PL
/-! PLN: defs of the text, facts. -/
namespace PL
open PySem PySem.Spec PyProof.Rows L2
/-- a method as it stands behind the top; a def -/
structure DF (K : PySem.W.Frag) (x qual : Str) (st : Stmt) (ps : List Str) where
  a : Addr
  d : FuncData
  F : Fun K x qual st a d
  b : Binds K d ps []
structure DG (K : PySem.W.Frag) (mg : Str → Option Value) (x : Str) (st : Stmt) (ps : List Str) extends DF K x x st ps where
  g : mg x = some (.ref a)
section
variable {P : Program} {w : World} {K : PySem.W.Frag} {mg : Str → Option Value} {base : Heap}
theorem fn_bad {k : Nat} {f : Addr} {fd : FuncData} {ps : List Str} {n : Nat} (hn : n = ps.length := by rfl) : FnOk P w K mg base (L2.CX P w) k f fd ps (spD K mg n fun _ _ => .bad) :=
  ⟨fun vs H Q E h => (spD_len vs H Q E h).trans hn, fun A outer s H args us vs Q E hr e0 hb hv ⟨_, _, _, _, _, _, h⟩ => h.elim⟩
theorem re_globI {X : Cx} {W : WX} {pos : Pos} {x : Str} {i : Int} {t : Tok} (hg : Gl X x) (hm : X.mg x = some (.int i t)) (hd : (x == ("__debug__" : Str)) = false := by decide) : RE X W (.Name x pos) (cV (.int i)) := re_glob (w := .int i) hg hm ⟨_, rfl⟩ (fun _ _ => rfl) hd
theorem re_globS {X : Cx} {W : WX} {pos : Pos} {x : Str} {i : Str} {t : Tok} (hg : Gl X x) (hm : X.mg x = some (.str i t)) (hd : (x == ("__debug__" : Str)) = false := by decide) : RE X W (.Name x pos) (cV (.str i)) := re_glob (w := .str i) hg hm ⟨_, rfl⟩ (fun _ _ => rfl) hd
theorem hu65_of {A : Around} {k : Nat} (hr : Room k A) : A.units + 65 < cLine := by have := hr.un; omega
theorem fn_body {x qual : Str} {st : Stmt} {f : Addr} {fd : FuncData} {N ps : List Str} {k n : Nat} {body : SM} (F : Fun K x qual st f fd) (S : FnScope N ps (defScope st)) (hn : ps.length = n)
    (h : ∀ (cdv : Value) (A : Around) (outer : List Env) (s : Shared) (H : Hp) (Q : VK) (E : XK), Room k (A.deeper (envOfC qual (defScope st) s.heap.objs.size f cdv)) →
      RSs (cxOf (L2.CX P w) P w K mg base N qual (defScope st) f cdv A outer s H E) (fun cls d _ H => E cls d H) (defBody st) body) :
    FnOk P w K mg base (L2.CX P w) (k + 1) f fd ps (spD K mg n (callS N.length body)) := by
  refine F.okX S (fun vs H Q E hh => (spD_len vs H Q E hh).trans hn.symm) fun cdv A outer s H vs Q E hr ⟨ι, Sto, qs, r, rv, l, hw⟩ => ⟨_, (h cdv A outer s H Q E hr).pss, ?_⟩
  refine ⟨ι, startE N.length qs, Sto, r, REn.start rv, ?_⟩
  unfold callS at hw
  cases hb : body (startE N.length qs) Sto with
  | nx τ S' => rw [hb] at hw; exact fun ι' H' σ' e r' _ => hw ι' H' .non e r' rfl
  | rt v S' => rw [hb] at hw; exact hw
  | er c p τ S' => rw [hb] at hw; exact fun ι' H' σ' Ca d x e r' _ m hd hp => hw ι' H' Ca d x e r' m hd hp
  | bad => rw [hb] at hw; exact hw.elim
/-- the law's promise: the script as the head hands it -/
def spLaw (K : PySem.W.Frag) (n : Nat) : Sp := fun vs H Q _ => ∃ (a : Addr) (ns : List Int), vs = [.ref a] ∧ ns.length ≤ n ∧ Only H ∧ SqL K H a (ns.map V.int) ∧ ∀ H', Q (.bl true) H'
theorem spLaw_len {K : PySem.W.Frag} {n : Nat} : ∀ vs H Q E, spLaw K n vs H Q E → vs.length = 1 := fun vs H Q E ⟨a, ns, e, _⟩ => by rw [e]; rfl
/-- the law answers True: what is left for plain Lean -/
def LawMain (n : Nat) (F : FM) : Prop := ∀ ns : List Int, ns.length ≤ n → wp (F [.fls (ns.map PV.int)] []) (fun v _ => v = .bl true) (fun _ _ _ => False)
theorem spLaw_spD {K : PySem.W.Frag} {mg : Str → Option Value} {n : Nat} {F : FM} (h : LawMain n F) (vs : List V) (H : Hp) (Q : VK) (E : XK) (s : spLaw K n vs H Q E) : spD K mg 1 F vs H Q E := by
  obtain ⟨a, ns, rfl, hn, hO, hS, hQ⟩ := s
  refine ⟨[], [], [.fls (ns.map PV.int)], ⟨rfl, List.nodup_nil, fun l a o h => by simp at h⟩, ⟨_, _, rfl, ⟨a, _, rfl, ?_, RpL.ints ns⟩, rfl⟩, rfl, wp_mono (h ns hn) (fun v S' e => ?_) (fun _ _ _ z => z.elim)⟩
  · rcases hS with (hS | hS) | hS
    · rcases hO a with z | ⟨o, xs, z⟩
      · rw [z] at hS; cases hS
      · rw [z] at hS; cases hS
    · obtain ⟨o, hS⟩ := hS
      exact .inl ⟨o, hS⟩
    · exact .inr hS
  · subst e
    intro ι' H' x _ _ r
    have r' : x = .bl true := r
    subst r'
    exact hQ H'
theorem spLaw_end {K : PySem.W.Frag} {n : Nat} {H : Hp} {a : Addr} {ns : List Int} (hn : ns.length ≤ n) (hO : Only H) (hS : SqL K H a (ns.map V.int)) : spLaw K n [.ref a] H (fun v _ => v = .bl true) fun _ _ _ => False :=
  ⟨a, ns, rfl, hn, hO, hS, fun _ => rfl⟩
theorem fn_law {P : Program} {w : World} {K : PySem.W.Frag} {mg : Str → Option Value} {base : Heap} {k n : Nat} {f : Addr} {fd : FuncData} {ps : List Str} {F : FM} (h : LawMain n F) (G : FnOk P w K mg base (L2.CX P w) k f fd ps (spD K mg 1 F)) : FnOk P w K mg base (L2.CX P w) k f fd ps (spLaw K n) :=
  G.imp fun vs H Q E s => spLaw_spD h vs H Q E s
theorem cx_end {P : Program} {w : World} {H : Hp} {s : Shared} {e : Value} {s' : Shared} (h : L2.CX P w [] H s (fun _ _ _ => False) e s') : False := by
  obtain ⟨_, _, _, _, _, _, _, _, _, _, _, _, z⟩ := h
  exact z
/-- keywords -/
theorem Fun.kbindsW {x qual : Str} {st : Stmt} {f : Addr} {fd : FuncData} {ps ks : List Str} {g : List Value → List Value → List Value} {gV : List V → List V → List V} (F : Fun K x qual st f fd)
    (h : ∀ (kV doc pm : Value) (an : Option Addr) (cdv ct : Value) (us ws : List Value), (g us ws).length = ps.length → bindArgs (PySem.W.fnOf x qual (defArgs st) (defBody st) (defScope st) .none kV doc pm an cdv ct) ⟨us, ks.zip ws⟩ = pure (ps.zip (g us ws)))
    (hrel : ∀ {vs : List V} {us : List Value} {zs : List V} {ws : List Value}, Vals vs us → Vals zs ws → Vals (gV vs zs) (g us ws)) : KBinds K fd ps ks g gV := by
  obtain ⟨oc, od, kV, doc, pm, an, cdv, ct, osl, rfl, lk, hcd⟩ := F.ex
  exact ⟨fun s us ws _ hl => .of_eq (h kV doc pm an cdv ct us ws hl), hrel⟩
end
/-- += of ints -/
def addIP : Op2 := intOp fun i j => some (.int (i + j))
theorem pip_of {X : Cx} {op : Operator} {f : Int → Int → Int} (h : PIp X op (ipI f)) : PIp X op (gOp X (intOp fun i j => some (.int (f i j)))) := by
  intro pins s σ H x y v u Q I rx ry ⟨ι, S, p, q, z, S', rs, rp, rq, hf, k⟩
  unfold intOp at hf
  split at hf
  · cases hf
    cases (show x = _ from rp)
    cases (show y = _ from rq)
    exact h pins s σ H _ _ v u Q I rx ry ⟨_, _, rfl, rfl, k _ _ _ .refl rs rfl⟩
  · cases hf
theorem pip_add {X : Cx} : PIp X .Add (gOp X addIP) := pip_of ip_add
theorem pip_sub {X : Cx} : PIp X .Sub (gOp X subP) := pip_of ip_sub
theorem kw_one {K : PySem.W.Frag} : ∀ (ι : List Addr) (H : Hp) (qs : List PV) (zs : List V) (v : V), qs.length = 1 → RpL K ι H qs zs →
    ∃ vs, (fun (us ws : List V) => match us, ws with | [u], [x0] => [u, x0] | _, _ => []) [v] zs = v :: vs ∧ RpL K ι H ((fun (qs : List PV) => match qs with | [x0] => [x0] | _ => []) qs) vs ∧ ((fun (qs : List PV) => match qs with | [x0] => [x0] | _ => []) qs).length = 1 := by
  intro ι H qs zs v hl h
  match qs, hl with
  | [p], _ =>
    obtain ⟨x, rfl, h1⟩ := rpl1 h
    exact ⟨[x], rfl, RpL.one h1, rfl⟩
theorem kw_two {K : PySem.W.Frag} : ∀ (ι : List Addr) (H : Hp) (qs : List PV) (zs : List V) (v : V), qs.length = 2 → RpL K ι H qs zs →
    ∃ vs, (fun (us ws : List V) => match us, ws with | [u], [x0, x1] => [u, x1, x0] | _, _ => []) [v] zs = v :: vs ∧ RpL K ι H ((fun (qs : List PV) => match qs with | [x0, x1] => [x1, x0] | _ => []) qs) vs ∧ ((fun (qs : List PV) => match qs with | [x0, x1] => [x1, x0] | _ => []) qs).length = 2 := by
  intro ι H qs zs v hl h
  match qs, hl with
  | [p, q], _ =>
    obtain ⟨x, y, rfl, h1, h2⟩ := rpl2 h
    exact ⟨[y, x], rfl, ⟨y, [x], rfl, h2, RpL.one h1⟩, rfl⟩
theorem kw_rel1 {vs : List V} {us : List Value} {zs : List V} {ws : List Value} (h : Vals vs us) (h' : Vals zs ws) :
    Vals ((fun (us ws : List V) => match us, ws with | [u], [x0] => [u, x0] | _, _ => []) vs zs) ((fun (us ws : List Value) => match us, ws with | [u], [x0] => [u, x0] | _, _ => []) us ws) := by
  cases h with
  | nil => exact .nil
  | cons a b =>
    cases b with
    | cons _ _ => exact .nil
    | nil =>
      cases h' with
      | nil => exact .nil
      | cons c d =>
        cases d with
        | cons _ _ => exact .nil
        | nil => exact .cons a (.cons c .nil)
theorem kw_rel2 {vs : List V} {us : List Value} {zs : List V} {ws : List Value} (h : Vals vs us) (h' : Vals zs ws) :
    Vals ((fun (us ws : List V) => match us, ws with | [u], [x0, x1] => [u, x1, x0] | _, _ => []) vs zs) ((fun (us ws : List Value) => match us, ws with | [u], [x0, x1] => [u, x1, x0] | _, _ => []) us ws) := by
  cases h with
  | nil => exact .nil
  | cons a b =>
    cases b with
    | cons _ _ => exact .nil
    | nil =>
      cases h' with
      | nil => exact .nil
      | cons c d =>
        cases d with
        | nil => exact .nil
        | cons e f =>
          cases f with
          | cons _ _ => exact .nil
          | nil => exact .cons a (.cons e (.cons c .nil))
end PL
/-! PLO: raise, try. -/
namespace PL
open PySem PySem.Spec PyProof.Rows L2
/-! ### raise -/
/-- an exception class of the program, its __init__ at fI -/
structure ExT (K : PySem.W.Frag) (mg : Str → Option Value) (c : Str) (C fI : Addr) : Prop where
  g : mg c = some (.ref C)
  o : OexC K C
  ini : PySem.W.findIn K (.ref C) "__init__" = some (some (.ref fI))
  na : PySem.W.findIn K (.ref C) "what" = some none
def spI (K : PySem.W.Frag) : Sp := fun vs H Q _ => ∃ (a C : Addr) (x : V), vs = [.ref a, x] ∧ OexC K C ∧ PySem.W.findIn K (.ref C) "what" = some none ∧ H a = some (exo a C none) ∧
  ∀ dx, H dx = none → dx ≠ a → Q .non (upd (upd H dx (exd dx [("what", x)])) a (exo a C (some dx)))
section
variable {P : Program} {w : World} {K : PySem.W.Frag} {mg : Str → Option Value} {base : Heap}
theorem fn_init {x qual : Str} {st : Stmt} {f : Addr} {fd : FuncData} {p1 p2 p3 p4 : Pos} (F : Fun K x qual st f fd) (S : FnScope ["self", "what"] ["self", "what"] (defScope st)) (hb : defBody st = [.Assign [.Attribute (.Name "self" p1) "what" p2] (.Name "what" p3) p4]) {k : Nat} :
    FnOk P w K mg base (L2.CX P w) (k + 1) f fd ["self", "what"] (spI K) := by
  refine F.okX S (fun vs H Q E ⟨a, C, x, e, _⟩ => by rw [e]; rfl) fun cdv A outer s H vs Q E hr ⟨a, C, x, e, T, na, ha, hq⟩ => ?_
  rw [hb]
  subst e
  have v1 : Vis (defScope st) "self" := (S.par "self" (by simp)).elim .inl fun h => .inr (.inl h)
  have v2 : Vis (defScope st) "what" := (S.par "what" (by simp)).elim .inl fun h => .inr (.inl h)
  refine ⟨_, pss_one (ps_ost (pe_var (i := 0) rfl v1) (pe_var (i := 1) rfl v2)), ?_⟩
  exact ⟨x, rfl, .ref a, rfl, a, C, rfl, T, na, .inl ⟨ha, fun dx n ne => hq dx n ne⟩⟩
end
def raiseS (C : Str) (m : EM PV) : SM := fun τ S => bndS (m τ S) τ fun v S1 => .er C v τ S1
section
variable {X : Cx} {W : WX} {e : Expr} {ma : EM PV} {p pos pos' : Pos}
theorem del_upd {H : Hp} {a dx : Addr} {o o' u : HO} (ha : H a = none) (hd : H dx = none) (hne : dx ≠ a) : upd (del (upd (upd (upd H a o) dx u) a o') a) dx (.xd []) = upd H dx (.xd []) ∧ ∀ x, upd (del (upd (upd (upd H a o) dx u) a o') a) dx x = upd H dx x := by
  have key : ∀ x, upd (del (upd (upd (upd H a o) dx u) a o') a) dx x = upd H dx x := by
    intro x
    funext b
    by_cases h1 : b = dx
    · subst h1; rw [upd_same, upd_same]
    · rw [upd_ne h1, upd_ne h1]
      by_cases h2 : b = a
      · subst h2; rw [del_same, ha]
      · rw [del_ne h2, upd_ne h2, upd_ne h1, upd_ne h2]
  exact ⟨key _, key⟩
theorem rs_raise {c : Str} {C fI : Addr} {fd : FuncData} {k : Nat} (T : ExT X.K X.mg c C fI) (tI : PySem.W.typeIn X.K (.ref fI) = some (.type "function")) (F1 : FnOk X.prog X.w X.K X.mg X.base (L2.CX X.prog X.w) k fI fd ["self", "what"] (spI X.K)) (hr : Room (k + 1) X.A)
    (hb : Binds X.K fd ["self", "what"] []) (hg : Gl X c) (hc : X.calm = true) (tk : Takes X W) (ha : RE X W e ma)
    (hdb : (c == ("__debug__" : Str)) = false := by decide) (he : starEach [e] X.env = (false, eval e X.env) :: starEach [] X.env := by rfl) (hpl : (backTo pos (starEach [] X.env)).any (·.1) = false := by rfl) :
    RS X W (.Raise (some (.Call (.Name c p) [e] [] pos)) none pos') (raiseS c ma) := by
  refine ⟨ps_weak (ps_raise hc tk (pmk_oex T.o T.ini tI F1 hr hb (dvs := []) .nil passL hg T.g (pa_cons ha.pe pa_nil he) hdb he hpl)) fun D σ H ⟨ι, τ, S, r, ρ, pk⟩ => ?_⟩
  refine ⟨ι, τ, S, r, ρ, (PkS.next (R := rV X) ρ pk).mono fun x H1 ⟨q, ι1, S1, e1, r1, q1, pk1⟩ => ?_⟩
  refine ⟨by simp, fun a hn => ⟨a, C, x, rfl, T.o, T.na, upd_same, fun dx hdx hne => ?_⟩⟩
  have hd1 : H1 dx = none := by rw [upd_ne hne] at hdx; exact hdx
  refine ⟨rfl, dx, [("what", x)], upd_same, by rw [upd_ne hne, upd_same], hd1, ?_⟩
  rw [(del_upd hn hd1 hne).2]
  obtain ⟨E, r2⟩ := r1.tup (ho := .xd [("what", x)]) hd1
  exact pk1 ι1 _ σ C dx x E r2 ((ρ.up e1).up E) T.g upd_same (q1.up E)
/-! ### try -/
def noErS (o : OS) : OS := match o with
  | .er _ _ _ _ => .bad
  | o => o
def tryS (cs : List (Str × Bool)) (b : SM) (h : Str → PV → SM) : SM := fun τ S => match b τ S with
  | .er c p τ1 S1 => (match cs.lookup c with | some true => noErS (h c p τ1 S1) | some false => .er c p τ1 S1 | none => .bad)
  | o => o
theorem noEr_any {W W' : WX} {D : Ends} {ι : List Addr} {H : Hp} {o : OS} (h : PkS X W D ι H (noErS o)) : PkS X W' D ι H o := by
  cases o with
  | nx τ S => exact h
  | rt v S => exact h
  | er c p τ S => exact h.elim
  | bad => exact h
theorem try_read {cs : List (Str × Bool)} {m : SM} {h : Str → PV → SM} {W Wout : WX} {D : Ends} {ι : List Addr} {H : Hp} {τ : En} {S : Sto}
    (hw : ∀ c p τ1 S1 ι' H' σ' Ca d x, Ext ι H ι' H' → RSt X.K X.mg ι' H' S1 → REn X.K ι' H' τ1 σ' → X.mg c = some (.ref Ca) → H' d = some (.xd [("what", x)]) → Rp X.K ι' H' p x →
      (cs.lookup c = some true → PkS X Wout D ι' H' (noErS (h c p τ1 S1)) → W (.ref Ca) (some d) σ' H') ∧ (cs.lookup c = some false → Wout (.ref Ca) (some d) σ' H' → W (.ref Ca) (some d) σ' H'))
    (pk : PkS X Wout D ι H (tryS cs m h τ S)) : PkS X W D ι H (m τ S) := by
  unfold tryS at pk
  cases hm : m τ S with
  | nx τ S => rw [hm] at pk; exact pk
  | rt v S => rw [hm] at pk; exact pk
  | bad => rw [hm] at pk; exact pk
  | er c p τ1 S1 =>
    rw [hm] at pk
    simp only at pk
    intro ι' H' σ' Ca d x e r ρ hm hd hp
    obtain ⟨h1, h2⟩ := hw c p τ1 S1 ι' H' σ' Ca d x e r ρ hm hd hp
    cases hl : cs.lookup c with
    | none => rw [hl] at pk; exact pk.elim
    | some b =>
      rw [hl] at pk
      cases b with
      | true => exact h1 hl (PkS.up pk e)
      | false => exact h2 hl (pk ι' H' σ' Ca d x e r ρ hm hd hp)
abbrev noW : WX := fun _ _ _ _ => False
theorem rs_tryOnly {x : Str} {c : Value} {body suite : List Stmt} {b₀ : Stmt} {np : Pos} {cs : List (Str × Bool)} {m mh : SM} (hs : X.stack = X.env :: X.outer) (hf : X.env.frame = some X.env.locals) (hc : Names X x c) (tk : Takes X W)
    (hcs : ∀ c' b, cs.lookup c' = some b → ∀ Ca, X.mg c' = some (.ref Ca) → PySem.W.exmOne X.K (.ref Ca) c = some b)
    (hb : ∀ (W : WX) (pn : List (Addr × Obj)) (xe : Value → Shared → Prop), Takes (X.tr pn xe) W → PassesOwn (model X.prog X.w) X.A X.env xe → RSs (X.tr pn xe) W body m)
    (hsu : ∀ (a : Addr) (pn : List (Addr × Obj)), RSs (X.suite a pn) noW (b₀ :: suite) mh) :
    RS X W (.Try body [.ExceptHandler (some (.Name x np)) none (b₀ :: suite) pos'] [] [] pos) (tryS cs m fun _ _ => mh) := by
  refine ⟨ps_weak (ps_try_only hs hf hc tk (tb := fun W => gS X W m) (ts := fun _ _ _ => gS X noW mh) (fun W pn xe tk po => (hb W pn xe tk po).pss) (fun a oe cls d pn _ _ => (hsu a _).pss)) fun D σ H ⟨ι, τ, S, r, ρ, pk⟩ => ?_⟩
  refine ⟨ι, τ, S, r, ρ, try_read (fun c' p τ1 S1 ι' H' σ' Ca d y e r' ρ' hm hd hp => ⟨fun hl pk' => ⟨true, hcs c' _ hl Ca hm, fun _ a ha => ⟨ι', τ1, S1, r', ρ', noEr_any pk'⟩, fun z => by cases z⟩, fun hl w => ⟨false, hcs c' _ hl Ca hm, fun z => by (cases z), fun _ => w⟩⟩) pk⟩
end
/-! ### what a suite reads of the exception -/
structure FX (X : Cx) (cs : List (Str × Bool)) (a : Addr) (cls : Value) (d : Option Addr) (i : Nat) (ι : List Addr) (H : Hp) (S : Sto) (σ : L2.St) (c : Str) (p : PV) (x : V) (dd Ca : Addr) : Prop where
  r : RSt X.K X.mg ι H S
  at_ : σ[i]? = some (some (.ref a))
  m : X.mg c = some (.ref Ca)
  cl : cls = .ref Ca
  ed : d = some dd
  hd : H dd = some (.xd [("what", x)])
  rp : Rp X.K ι H p x
  lk : cs.lookup c = some true
theorem OR.no_xd {K : PySem.W.Frag} {mg : Str → Option Value} {ι : List Addr} {H : Hp} {a : Addr} {o : Ob} {fs : List (Str × V)} (h : OR K mg ι H a o) (e : H a = some (.xd fs)) : False := by
  cases o with
  | lst xs => obtain ⟨vs, q, _⟩ := h; rw [e] at q; cases q
  | dct kvs => obtain ⟨vs, q, _⟩ := h; rw [e] at q; cases q
  | ins C fs => obtain ⟨Ca, dx, ws, _, q, _⟩ := h; rw [e] at q; cases q
theorem FX.up {X : Cx} {cs : List (Str × Bool)} {a : Addr} {cls : Value} {d : Option Addr} {i : Nat} {ι ι' : List Addr} {H H' : Hp} {S : Sto} {σ : L2.St} {c : Str} {p : PV} {x : V} {dd Ca : Addr} (f : FX X cs a cls d i ι H S σ c p x dd Ca)
    (e : Ext ι H ι' H') (r : RSt X.K X.mg ι' H' S) : FX X cs a cls d i ι' H' S σ c p x dd Ca := by
  have hn : dd ∉ ι := fun h => by
    obtain ⟨l, o, _, _, ho⟩ := f.r.mem h
    exact ho.no_xd f.hd
  exact ⟨r, f.at_, f.m, f.cl, f.ed, e.fr dd _ f.hd hn, f.rp.up e, f.lk⟩
def gX (X : Cx) (cs : List (Str × Bool)) (a : Addr) (cls : Value) (d : Option Addr) (i : Nat) (v : Str → PV → PV) : TE := fun σ H Q => ∃ ι S c p x dd Ca, FX X cs a cls d i ι H S σ c p x dd Ca ∧ ∀ ι' H' y, Ext ι H ι' H' → RSt X.K X.mg ι' H' S → Rp X.K ι' H' (v c p) y → Q y H'
def gXL (X : Cx) (cs : List (Str × Bool)) (a : Addr) (cls : Value) (d : Option Addr) (i : Nat) (v : Str → PV → List PV) : TA := fun σ H Q => ∃ ι S c p x dd Ca, FX X cs a cls d i ι H S σ c p x dd Ca ∧ ∀ ι' H' y, Ext ι H ι' H' → RSt X.K X.mg ι' H' S → RpL X.K ι' H' (v c p) y → Q y H'
/-- an item of the suite's list: for whatever exception is caught -/
def RX (X : Cx) (cs : List (Str × Bool)) (i : Nat) (e : Expr) (v : Str → PV → PV) : Prop := ∀ (a : Addr) (oe : Obj) (cls : Value) (d : Option Addr) (pn : List (Addr × Obj)), Zc cls d oe → (∃ vs, oe.data = .fields vs) → PE (X.suite a ((a, oe) :: pn)) e (gX X cs a cls d i v)
def RXL (X : Cx) (cs : List (Str × Bool)) (i : Nat) (es : List Expr) (v : Str → PV → List PV) : Prop := ∀ (a : Addr) (oe : Obj) (cls : Value) (d : Option Addr) (pn : List (Addr × Obj)), Zc cls d oe → (∃ vs, oe.data = .fields vs) → PA (X.suite a ((a, oe) :: pn)) es (gXL X cs a cls d i v)
section
variable {X : Cx} {W : WX} {cs : List (Str × Bool)} {i : Nat} {e : Expr} {es : List Expr} {v : Str → PV → PV} {vs : Str → PV → List PV} {pos : Pos}
theorem rx_nil : RXL X cs i [] fun _ _ => [] := fun a oe cls d pn hz hf => pa_weak pa_nil fun σ H Q ⟨ι, S, c, p, x, dd, Ca, f, k⟩ => k ι H [] .refl f.r rfl
theorem rx_cons (h : RX X cs i e v) (ht : RXL X cs i es vs) (hs : ∀ a pn, starEach (e :: es) (X.suite a pn).env = (false, eval e (X.suite a pn).env) :: starEach es (X.suite a pn).env := by intro _ _; rfl) : RXL X cs i (e :: es) fun c p => v c p :: vs c p := by
  intro a oe cls d pn hz hf
  refine pa_weak (pa_cons (h a oe cls d pn hz hf) (ht a oe cls d pn hz hf) (hs _ _)) fun σ H Q ⟨ι, S, c, p, x, dd, Ca, f, k⟩ => ?_
  refine ⟨ι, S, c, p, x, dd, Ca, f, fun ι1 H1 y e1 r1 q1 => ?_⟩
  refine ⟨ι1, S, c, p, x, dd, Ca, f.up e1 r1, fun ι2 H2 ys e2 r2 q2 => ?_⟩
  exact k ι2 H2 (y :: ys) (e1.trans e2) r2 ⟨y, ys, rfl, q1.up e2, q2⟩
theorem rx_cst {v : PV} {w : V} (h : ∀ X : Cx, PE X e (tC w)) (r0 : ∀ ι H, Rp X.K ι H v w) : RX X cs i e fun _ _ => v := fun a oe cls d pn hz hf => pe_weak (h _) fun σ H Q ⟨ι, S, c, p, x, dd, Ca, f, k⟩ => k ι H w .refl f.r (r0 _ _)
theorem rx_str {x j} : RX X cs i (.Constant (.str x) j pos) fun _ _ => .str x := rx_cst (fun X => pe_str) fun _ _ => rfl
theorem rx_non {j} : RX X cs i (.Constant .none j pos) fun _ _ => .non := rx_cst (fun X => pe_non) fun _ _ => rfl
theorem rx_false {P : L2.St → Hp → VK → Prop} {Y : Cx} (h : ∀ σ H Q, ¬ P σ H Q) : PE Y e P := ⟨fun pins s σ H Q I z => (h σ H Q z).elim⟩
/-- e.what -/
theorem rx_what {n : Str} {np : Pos} (hN : X.N[i]? = some n) (hv : Vis X.env.scope n) (hC : ∀ c Ca, cs.lookup c = some true → X.mg c = some (.ref Ca) → XfC X.K Ca ∧ PySem.W.findIn X.K (.ref Ca) "what" = some none)
    (hd1 : (n == ("__debug__" : Str)) = false := by decide) (hcd : (n == ("__classdict__" : Str)) = false := by decide)
    (hb : ∀ a pn, attributeBase (.Name n np) "what" (X.suite a pn).env (eval (.Name n np) (X.suite a pn).env) = eval (.Name n np) (X.suite a pn).env := by intro _ _; rfl) :
    RX X cs i (.Attribute (.Name n np) "what" pos) fun _ p => p := by
  intro a oe cls d pn hz hf
  by_cases hk : ∃ c Ca, cs.lookup c = some true ∧ X.mg c = some (.ref Ca) ∧ cls = .ref Ca
  · obtain ⟨c0, Ca0, k1, k2, rfl⟩ := hk
    obtain ⟨T, hno⟩ := hC c0 Ca0 k1 k2
    refine pe_weak (pe_xf (X := X) (C := Ca0) T hno hz hf (pe_var (i := i) hN hv hd1 hcd) (hb a ((a, oe) :: pn))) fun σ H Q ⟨ι, S, c, p, x, dd, Ca, f, k⟩ => ?_
    exact ⟨.ref a, f.at_, rfl, rfl, dd, _, x, f.ed, f.hd, by simp, k ι H x .refl f.r f.rp⟩
  · exact rx_false fun σ H Q ⟨ι, S, c, p, x, dd, Ca, f, k⟩ => hk ⟨c, Ca, f.lk, f.m, f.cl⟩
/-- isinstance of an own exception with fields -/
theorem call_isEd {a D dd : Addr} {oe : Obj} {pn : List (Addr × Obj)} (C : ExcC X.K D) (hz : Zc (.ref D) (some dd) oe) (hf : ∃ vs, oe.data = .fields vs) : CallR (X.suite a ((a, oe) :: pn)) (.builtin "isinstance") (fun xs H Q => ∃ (c : V) (cv : Value) (b : Bool) (fs : List (Str × V)), xs = [.ref a, c] ∧ ClsV c cv ∧ H dd = some (.xd fs) ∧ PySem.W.kitOne X.K (.ref D) cv = some b ∧ Q (.bl b) H) := by
  intro pins s σ H xs us Q I r h
  obtain ⟨c, cv, b, fs, rfl, hcv, hx, e, q⟩ := h
  obtain ⟨u1, u2, rfl, r1, r2⟩ := vals2 r
  cases (show u1 = Value.ref a from r1)
  have ec := hcv.eq r2
  subst ec
  obtain ⟨hget, _⟩ := I.pin (a, oe) (List.mem_append.mpr (.inl List.mem_cons_self))
  obtain ⟨vs, hv⟩ := hf
  have hx' : ObjOk X.prog X.w H s.heap dd (.xd fs) := I.hok dd _ hx
  obtain ⟨mA, hns, hr⟩ := hx'
  obtain ⟨od, ho, hl⟩ := lookIn_ns hns
  have J : PySem.W.InstAt s.heap a oe D (some od) := ⟨hget, hz.1, by unfold PySem.W.notCls; rw [hv] <;> rfl, by rw [hz.2]; exact ho⟩
  obtain ⟨cd, hc, _⟩ := PySem.W.any_some C.hd
  have hcl : (PySem.W.clsIn X.K D).isSome = true := by rw [hc]; rfl
  exact PySem.W.kia_one (PySem.W.kitx_exc (od := some od) hcl C.hg C.hk C.hs C.ha C.hn C.ht C.hm) I.kIn J e (fun z => nomatch z) fun tk => ⟨.bl b, H, I.tok tk, rfl, q⟩
theorem call_isEdT {a D dd : Addr} {oe : Obj} {pn : List (Addr × Obj)} (C : ExcC X.K D) (hz : Zc (.ref D) (some dd) oe) (hf : ∃ vs, oe.data = .fields vs) : CallR (X.suite a ((a, oe) :: pn)) (.builtin "isinstance") (fun xs H Q => ∃ (tp : Addr) (cs : List V) (us : List Value) (b : Bool) (fs : List (Str × V)), xs = [.ref a, .ref tp] ∧ H tp = some (.tup cs) ∧ Paired ClsV cs us ∧ H dd = some (.xd fs) ∧ PySem.W.kitAny X.K (.ref D) us = some b ∧ Q (.bl b) H) := by
  intro pins s σ H xs us Q I r h
  obtain ⟨tp, cs, ws, b, fs, rfl, hT, hcv, hx, e, q⟩ := h
  obtain ⟨u1, u2, rfl, r1, r2⟩ := vals2 r
  cases (show u1 = Value.ref a from r1)
  cases (show u2 = Value.ref tp from r2)
  obtain ⟨hget, _⟩ := I.pin (a, oe) (List.mem_append.mpr (.inl List.mem_cons_self))
  obtain ⟨vs, hv⟩ := hf
  have hx' : ObjOk X.prog X.w H s.heap dd (.xd fs) := I.hok dd _ hx
  obtain ⟨mA, hns, hr⟩ := hx'
  obtain ⟨od, ho, hl⟩ := lookIn_ns hns
  have J : PySem.W.InstAt s.heap a oe D (some od) := ⟨hget, hz.1, by unfold PySem.W.notCls; rw [hv] <;> rfl, by rw [hz.2]; exact ho⟩
  obtain ⟨cd, hc, _⟩ := PySem.W.any_some C.hd
  have hcl : (PySem.W.clsIn X.K D).isSome = true := by rw [hc]; rfl
  obtain ⟨_, its, rv, o, h1, h2, n, h3⟩ := (show ObjOk X.prog X.w H s.heap tp (.tup cs) from I.hok tp _ hT)
  have e3 := ClsV.all hcv rv
  subst e3
  obtain ⟨oc, od', dt, sl⟩ := o
  simp only at h2 h3
  subst h2 h3
  exact PySem.W.kia_tup (PySem.W.kitx_exc (od := some od) hcl C.hg C.hk C.hs C.ha C.hn C.ht C.hm) I.kIn J h1 e (fun z => nomatch z) fun tk => ⟨.bl b, H, I.tok tk, rfl, q⟩
/-- a name of a class -/
def ClsE (X : Cx) (e : Expr) (w : V) : Prop := ∀ a pn, PE (X.suite a pn) e (tC w)
theorem clsE_own {x : Str} {p : Pos} {D : Addr} (hg : Gl X x) (hm : X.mg x = some (.ref D)) (hd : (x == ("__debug__" : Str)) = false := by decide) : ClsE X (.Name x p) (.ref D) := fun a pn => pe_glob (X := X.suite a pn) hg hm rfl hd
theorem clsE_ty {x : Str} {p : Pos} {T : String} (hg : Gl X x) (hm : X.mg x = none) (hv : bootBuiltins x = some (.type T)) (hn : x ≠ "__name__" := by decide) (hd : (x == ("__debug__" : Str)) = false := by decide) : ClsE X (.Name x p) (.ty T) := fun a pn => pe_bltn (X := X.suite a pn) hg hm hv rfl hn hd
theorem rx_isi {n : Str} {np p : Pos} {ce : Expr} {w : V} {cv : Value} {is : Str → Bool} (hN : X.N[i]? = some n) (hv : Vis X.env.scope n) (hg : Gl X "isinstance") (hm : X.mg "isinstance" = none) (hce : ClsE X ce w) (hw : ClsV w cv)
    (hC : ∀ c Ca, cs.lookup c = some true → X.mg c = some (.ref Ca) → ExcC X.K Ca ∧ PySem.W.kitOne X.K (.ref Ca) cv = some (is c)) (hbt : bootBuiltins "isinstance" = some (.builtin "isinstance") := by decide +kernel)
    (hd1 : (n == ("__debug__" : Str)) = false := by decide) (hcd : (n == ("__classdict__" : Str)) = false := by decide)
    (he : ∀ a pn, starEach [.Name n np, ce] (X.suite a pn).env = (false, eval (.Name n np) (X.suite a pn).env) :: starEach [ce] (X.suite a pn).env := by intro _ _; rfl) (he2 : ∀ a pn, starEach [ce] (X.suite a pn).env = (false, eval ce (X.suite a pn).env) :: starEach [] (X.suite a pn).env := by intro _ _; rfl)
    (hpl : ∀ a pn, (backTo pos (starEach [ce] (X.suite a pn).env)).any (·.1) = false := by intro _ _; rfl) :
    RX X cs i (.Call (.Name "isinstance" p) [.Name n np, ce] [] pos) fun c _ => .bl (is c) := by
  intro a oe cls d pn hz hf
  by_cases hk : ∃ c Ca dd, cs.lookup c = some true ∧ X.mg c = some (.ref Ca) ∧ cls = .ref Ca ∧ d = some dd
  · obtain ⟨c0, Ca0, dd0, k1, k2, rfl, rfl⟩ := hk
    obtain ⟨T, hkit⟩ := hC c0 Ca0 k1 k2
    refine pe_weak (pe_callB (call_isEd T hz hf) hg hm hbt (pa_cons (pe_var (i := i) hN hv hd1 hcd) (pa_cons (hce _ _) pa_nil (he2 _ _)) (he _ _)) (by decide) (by decide) (he _ _) (hpl _ _)) fun σ H Q ⟨ι, S, c, q, x, dd, Ca, f, k⟩ => ?_
    have e1 := f.cl
    cases e1
    have e2 := f.ed
    cases e2
    exact ⟨.ref a, f.at_, w, cv, is c, _, rfl, hw, f.hd, (hC c Ca0 f.lk f.m).2, k ι H _ .refl f.r rfl⟩
  · exact rx_false fun σ H Q ⟨ι, S, c, p, x, dd, Ca, f, k⟩ => hk ⟨c, Ca, dd, f.lk, f.m, f.cl, f.ed⟩
/-- names of classes -/
def ClsL (X : Cx) (es : List Expr) (ws : List V) : Prop := ∀ a pn, PA (X.suite a pn) es fun _ H Q => Q ws H
theorem clsL_nil : ClsL X [] [] := fun a pn => pa_nil
theorem clsL_cons {w : V} {ws : List V} (h : ClsE X e w) (ht : ClsL X es ws) (hs : ∀ a pn, starEach (e :: es) (X.suite a pn).env = (false, eval e (X.suite a pn).env) :: starEach es (X.suite a pn).env := by intro _ _; rfl) : ClsL X (e :: es) (w :: ws) := fun a pn => pa_cons (h a pn) (ht a pn) (hs a pn)
theorem rx_isiT {n : Str} {np p tp : Pos} {k0} {ces : List Expr} {ws : List V} {cvs : List Value} {is : Str → Bool} (hN : X.N[i]? = some n) (hv : Vis X.env.scope n) (hg : Gl X "isinstance") (hm : X.mg "isinstance" = none) (hce : ClsL X ces ws) (hw : Paired ClsV ws cvs) (hl : ws.length ≤ 1000)
    (hC : ∀ c Ca, cs.lookup c = some true → X.mg c = some (.ref Ca) → ExcC X.K Ca ∧ PySem.W.kitAny X.K (.ref Ca) cvs = some (is c)) (hbt : bootBuiltins "isinstance" = some (.builtin "isinstance") := by decide +kernel)
    (hd1 : (n == ("__debug__" : Str)) = false := by decide) (hcd : (n == ("__classdict__" : Str)) = false := by decide)
    (he : ∀ a pn, starEach [.Name n np, .Tuple ces k0 tp] (X.suite a pn).env = (false, eval (.Name n np) (X.suite a pn).env) :: starEach [.Tuple ces k0 tp] (X.suite a pn).env := by intro _ _; rfl)
    (he2 : ∀ a pn, starEach [.Tuple ces k0 tp] (X.suite a pn).env = (false, eval (.Tuple ces k0 tp) (X.suite a pn).env) :: starEach [] (X.suite a pn).env := by intro _ _; rfl)
    (hpl : ∀ a pn, (backTo pos (starEach [.Tuple ces k0 tp] (X.suite a pn).env)).any (·.1) = false := by intro _ _; rfl) :
    RX X cs i (.Call (.Name "isinstance" p) [.Name n np, .Tuple ces k0 tp] [] pos) fun c _ => .bl (is c) := by
  intro a oe cls d pn hz hf
  by_cases hk : ∃ c Ca dd, cs.lookup c = some true ∧ X.mg c = some (.ref Ca) ∧ cls = .ref Ca ∧ d = some dd
  · obtain ⟨c0, Ca0, dd0, k1, k2, rfl, rfl⟩ := hk
    obtain ⟨T, hkit⟩ := hC c0 Ca0 k1 k2
    refine pe_weak (pe_callB (call_isEdT T hz hf) hg hm hbt (pa_cons (pe_var (i := i) hN hv hd1 hcd) (pa_cons (pe_tup (hce _ _)) pa_nil (he2 _ _)) (he _ _)) (by decide) (by decide) (he _ _) (hpl _ _)) fun σ H Q ⟨ι, S, c, q, x, dd, Ca, f, k⟩ => ?_
    have e1 := f.cl
    cases e1
    have e2 := f.ed
    cases e2
    refine ⟨.ref a, f.at_, by rw [sizeLine_eq]; omega, fun t ht => ?_⟩
    obtain ⟨E, r2⟩ := f.r.tup (ho := .tup ws) ht
    have f2 := f.up E r2
    exact ⟨t, ws, cvs, is c, _, rfl, upd_same, hw, f2.hd, (hC c Ca0 f.lk f.m).2, k ι _ _ E r2 rfl⟩
  · exact rx_false fun σ H Q ⟨ι, S, c, p, x, dd, Ca, f, k⟩ => hk ⟨c, Ca, dd, f.lk, f.m, f.cl, f.ed⟩
theorem REn.len {K : PySem.W.Frag} {ι : List Addr} {H : Hp} : ∀ {τ : En} {σ : L2.St}, REn K ι H τ σ → τ.length = σ.length
  | [], _, h => by have h : _ = [] := h; subst h; rfl
  | none :: τ, _, h => by
    obtain ⟨r, rfl, q⟩ := h
    simp [REn.len q]
  | some x :: τ, _, h => by
    obtain ⟨v, r, rfl, _, q⟩ := h
    simp [REn.len q]
/-- the suite: one list is made of it -/
def asgL (i j : Nat) (vs : List PV) : SM := fun τ S => if vs.length ≤ 16777216 ∧ i < τ.length then .nx ((τ.set j (some (.loc S.length))).set i none) (S ++ [.lst vs]) else .bad
theorem REn.set2 {K : PySem.W.Frag} {ι : List Addr} {H : Hp} : ∀ {τ : En} {σ : L2.St} {x : PV} {v w : V} (i j : Nat), i ≠ j → REn K ι H τ σ → Rp K ι H x v → REn K ι H ((τ.set j (some x)).set i none) (((σ.set i (some w)).set j (some v)).set i none) := by
  intro τ σ x v w i j hij h hx
  rw [List.set_comm _ _ hij, List.set_set]
  rw [List.set_comm _ _ (Ne.symm hij)]
  rw [List.set_comm _ _ hij]
  exact (h.set j hx).unset i
theorem rs_tryAsL {x n y : Str} {c : Value} {body : List Stmt} {np yp lp ap pos' : Pos} {m : SM} {j : Nat} (hs : X.stack = X.env :: X.outer) (hf : X.env.frame = some X.env.locals) (hN : X.N.Nodup) (hi : X.N[i]? = some n) (hln : X.env.kindOf n = some .local) (hc : Names X x c) (tk : Takes X W)
    (hcs : ∀ c' b, cs.lookup c' = some b → ∀ Ca, X.mg c' = some (.ref Ca) → PySem.W.exmOne X.K (.ref Ca) c = some b)
    (hb : ∀ (W : WX) (pn : List (Addr × Obj)) (xe : Value → Shared → Prop), Takes (X.tr pn xe) W → PassesOwn (model X.prog X.w) X.A X.env xe → RSs (X.tr pn xe) W body m)
    (hij : i ≠ j) (hj : X.N[j]? = some y) (hy : Loc X.env.scope y) (hit : RXL X cs i es vs) (hsw : ∀ a pn, swapsWith (.List es lp) (some (.Name y yp)) ap.line (X.suite a pn).env = pure false := by intro _ _; rfl)
    (hfy : X.fn y = true ∨ X.env.scope.names.lookup y = some .local := by first | exact .inl rfl | exact .inr rfl | assumption) :
    RS X W (.Try body [.ExceptHandler (some (.Name x np)) (some n) [.Assign [.Name y yp] (.List es lp) ap] pos'] [] [] pos) (tryS cs m fun c p => asgL i j (vs c p)) := by
  refine ⟨ps_weak (ps_try_as hs hf hN hi hln hc tk (i := i) (tb := fun W => gS X W m) (ts := fun a cls d => tAsg (tLst (gXL X cs a cls d i vs)) (gName j)) (fun W pn xe tk po => (hb W pn xe tk po).pss)
    (fun a oe cls d pn hz hfl => pss_one (ps_set (X := X.suite a ((a, oe) :: pn)) hN hj hy (pe_lst (hit a oe cls d pn hz hfl)) (hsw _ _) hfy))) fun D σ H ⟨ι, τ, S, r, ρ, pk⟩ => ?_⟩
  refine ⟨ι, τ, S, r, ρ, try_read (fun c' p τ1 S1 ι' H' σ' Ca d z e r' ρ' hm hd hp => ⟨fun hl pk' => ⟨true, hcs c' _ hl Ca hm, fun _ a ha => ?_, fun z => by cases z⟩, fun hl w => ⟨false, hcs c' _ hl Ca hm, fun z => by (cases z), fun _ => w⟩⟩) pk⟩
  unfold asgL at pk'
  by_cases hl2 : (vs c' p).length ≤ 16777216 ∧ i < τ1.length
  · rw [if_pos hl2] at pk'
    have hil : i < σ'.length := by rw [← ρ'.len]; exact hl2.2
    refine ⟨ι', S1, c', p, z, d, Ca, ⟨r', by rw [List.getElem?_set_self hil], hm, rfl, rfl, hd, hp, hl⟩, fun ι2 H2 ys e2 r2 q2 => ⟨by rw [← q2.length, sizeLine_eq]; exact hl2.1, fun pp hpp => ?_⟩⟩
    obtain ⟨E, r3, q3⟩ := r2.new_lst hpp q2
    exact pk' _ _ _ (e2.trans E) r3 (REn.set2 i j hij ((ρ'.up e2).up E) q3)
  · rw [if_neg hl2] at pk'
    exact pk'.elim
end
end PL
namespace PL
open PySem PySem.Spec PyProof.Rows L2
theorem cs_nil {P : Str → Bool → Prop} : ∀ c b, ([] : List (Str × Bool)).lookup c = some b → P c b := fun c b h => by simp at h
theorem cs_cons {P : Str → Bool → Prop} {c0 : Str} {b0 : Bool} {cs : List (Str × Bool)} (h : P c0 b0) (ht : ∀ c b, cs.lookup c = some b → P c b) : ∀ c b, ((c0, b0) :: cs).lookup c = some b → P c b := by
  intro c b hl
  rw [List.lookup_cons] at hl
  split at hl
  · rename_i e
    have e' : c = c0 := by simpa using e
    cases hl
    subst e'
    exact h
  · exact ht c b hl
theorem ex_of {mg : Str → Option Value} {c : Str} {C : Addr} {Q : Addr → Prop} (g : mg c = some (.ref C)) (h : Q C) : ∀ Ca, mg c = some (.ref Ca) → Q Ca := fun Ca e => by
  rw [g] at e
  cases e
  exact h
theorem csT {mg : Str → Option Value} {cs : List (Str × Bool)} {Q : Str → Addr → Prop} (h : ∀ c b, cs.lookup c = some b → b = true → ∀ Ca, mg c = some (.ref Ca) → Q c Ca) : ∀ c Ca, cs.lookup c = some true → mg c = some (.ref Ca) → Q c Ca := fun c Ca hl hm => h c true hl rfl Ca hm
end PL
/-! PLQ: dict of a list of pairs; names out of a list. -/
namespace PL
open PySem PySem.Spec PyProof.Rows L2
def pairP : PV → Option (Key × PV)
  | .tup [k, v] => (keyP k).map fun kk => (kk, v)
  | _ => none
def pairsP : List PV → Option (List (Key × PV))
  | [] => some []
  | x :: xs => (pairP x).bind fun p => (pairsP xs).map fun ps => p :: ps
def mergeP (kvs more : List (Key × PV)) : List (Key × PV) := more.foldl (fun acc kv => putP acc kv.1 kv.2) kvs
def dictLP (p : PV) (S : Sto) : Option (PV × Sto) := match p with
  | .loc l => match S[l]? with
    | some (.lst xs) => (pairsP xs).map fun kvs => (.loc S.length, S ++ [.dct (mergeP [] kvs)])
    | _ => none
  | _ => none
theorem keyP_rp {K : PySem.W.Frag} {ι : List Addr} {H : Hp} {k : PV} {kk : Key} {v : V} (h : keyP k = some kk) (r : Rp K ι H k v) : v = kV kk := by
  cases k with
  | int i => cases h; exact r
  | str x => cases h; exact r
  | _ => cases h
theorem pairs_rp {K : PySem.W.Frag} {ι : List Addr} {H : Hp} : ∀ {xs : List PV} {kvs : List (Key × PV)} {vs : List V}, pairsP xs = some kvs → RpL K ι H xs vs →
    ∃ (ps : List Addr) (ws : List (Key × V)), vs = ps.map V.ref ∧ Paired (fun p kv => SqT K H p [kV kv.1, kv.2]) ps ws ∧ RpF K ι H kvs ws
  | [], kvs, vs, h, r => by cases h; cases (show vs = [] from r); exact ⟨[], [], rfl, .nil, rfl⟩
  | x :: xs, kvs, vs, h, r => by
    obtain ⟨v, rs, rfl, r1, r2⟩ := r
    simp only [pairsP, Option.bind_eq_some_iff, Option.map_eq_some_iff] at h
    obtain ⟨p, hp, ps, hps, rfl⟩ := h
    obtain ⟨as, ws, rfl, h2, h3⟩ := pairs_rp hps r2
    unfold pairP at hp
    split at hp
    · rename_i k y
      simp only [Option.map_eq_some_iff] at hp
      obtain ⟨kk, hk, rfl⟩ := hp
      obtain ⟨a, us, rfl, q1, q2⟩ := r1
      obtain ⟨u1, us1, rfl, q3, q4⟩ := q2
      obtain ⟨u2, us2, rfl, q5, q6⟩ := q4
      cases (show us2 = [] from q6)
      have := keyP_rp hk q3
      subst this
      exact ⟨a :: as, (kk, u2) :: ws, rfl, .cons q1.seq h2, u2, ws, rfl, q5, h3⟩
    · cases hp
theorem RpF.merge {K : PySem.W.Frag} {ι : List Addr} {H : Hp} : ∀ {more : List (Key × PV)} {ws : List (Key × V)} {kvs : List (Key × PV)} {vs : List (Key × V)}, RpF K ι H more ws → RpF K ι H kvs vs → RpF K ι H (mergeP kvs more) (mergeK vs ws)
  | [], ws, kvs, vs, h, q => by cases (show ws = [] from h); exact q
  | (k, x) :: more, ws, kvs, vs, h, q => by
    obtain ⟨v, w, rfl, h1, h2⟩ := h
    show RpF K ι H (mergeP (putP kvs k x) more) (mergeK (putK vs k v) w)
    exact RpF.merge h2 (q.put h1)
theorem kit_sub {K : PySem.W.Frag} {C D : Addr} {b : Bool} (hd : PySem.W.hasDictIn K D = true) (ht : PySem.W.typeIn K (.ref D) = some (.type "type")) (h : PySem.W.subIn K (.ref C) (.ref D) = some b) (hn : (Value.ref C == Value.ref D) = false) : PySem.W.kitOne K (.ref C) (.ref D) = some b := by
  obtain ⟨cd, hc, _⟩ := PySem.W.any_some hd
  have e2 : ((PySem.W.clsIn K D).isSome && PySem.W.typeIn K (.ref D) == some (.type "type")) = true := by rw [hc, ht] <;> rfl
  unfold PySem.W.kitOne
  rw [hn, if_neg Bool.false_ne_true]
  show (if ((PySem.W.clsIn K D).isSome && PySem.W.typeIn K (.ref D) == some (.type "type")) = true then PySem.W.subIn K (.ref C) (.ref D) else none) = some b
  rw [if_pos e2]
  exact h
theorem kit_subT {K : PySem.W.Frag} {C : Addr} {T : String} {b : Bool} (hm : PySem.W.kitMeta T = true) (h : PySem.W.subIn K (.ref C) (.type T) = some b) : PySem.W.kitOne K (.ref C) (.type T) = some b := by
  unfold PySem.W.kitOne
  rw [show (Value.ref C == Value.type T) = false from rfl, if_neg Bool.false_ne_true]
  show (if PySem.W.kitMeta T = true then PySem.W.subIn K (.ref C) (.type T) else none) = some b
  rw [if_pos hm]
  exact h
section
variable {X : Cx} {W : WX} {e : Expr} {ma : EM PV} {pos : Pos}
theorem cr_dictL (hcalm : X.calm = true) : CallR X (.type "dict") (gCall X (on1 dictLP)) := cr_on1 fun pins s σ H us Q ι S p x v S' I r rs rp hf k => by
  unfold dictLP at hf
  split at hf
  · rename_i l
    split at hf
    · rename_i xs hS
      simp only [Option.map_eq_some_iff, Prod.mk.injEq] at hf
      obtain ⟨kvs, hk, rfl, rfl⟩ := hf
      obtain ⟨a, rfl, h1⟩ := rp
      obtain ⟨vs, h2, h3⟩ := rs.obj _ a _ h1 hS
      obtain ⟨ps, ws, rfl, h4, h5⟩ := pairs_rp hk h3
      refine call_dictP hcalm pins s σ H _ us Q I r ⟨a, ps, ws, rfl, .inl (.inl h2), h4, fun q hq => ?_⟩
      obtain ⟨E, r4, q4⟩ := rs.new_dct hq (RpF.merge h5 (kvs := []) (vs := []) rfl)
      exact k _ _ _ E r4 q4
    · cases hf
  · cases hf
def asgLS (n : Nat) (m : EM PV) (g : GMs) : SM := fun τ S => bndS (m τ S) τ fun v S1 => match v with
  | .loc l => (match S1[l]? with
    | some (.lst xs) => if xs.length = n then (match g xs τ with | some τ1 => .nx τ1 S1 | none => .bad) else .bad
    | _ => .bad)
  | _ => .bad
theorem rs_asgL {es : List Expr} {k n : Nat} {tp : Pos} {g : GMs} {sl : List Nat} (he : RE X W e ma) (hg : RGs X es g sl) (hc : X.calm = true := by rfl) (hn : (assignEach es X.env).length = n := by rfl) (hst : (assignEach es X.env).findIdx? (·.1) = none := by rfl)
    (hs : swapsWithSole [.Tuple es k tp] e pos.line X.env = pure false := by rfl) (hw : swappedStores [.Tuple es k tp] e X.env = pure none := by rfl)
    (h1 : (assignEach [.Tuple es k tp] X.env).map (·.2) = [assign (.Tuple es k tp) X.env] := by rfl) : RS X W (.Assign [.Tuple es k tp] e pos) (asgLS n ma g) := by
  refine ⟨ps_weak (ps_asg he.pe (pg_lst hc hg.pgs hn hst) hs hw h1) fun D σ H h => ?_⟩
  obtain ⟨ι, τ, S, r, ρ, pk⟩ := h
  refine ⟨ι, τ, S, r, ρ, (PkS.next (R := rV X) ρ pk).mono fun x H1 ⟨p, ι1, S1, e1, r1, q1, pk1⟩ => ?_⟩
  cases p with
  | loc l =>
    simp only at pk1
    cases hS : S1[l]? with
    | none => rw [hS] at pk1; exact pk1.elim
    | some o =>
      rw [hS] at pk1
      cases o with
      | lst xs =>
        simp only at pk1
        by_cases hl : xs.length = n
        · rw [if_pos hl] at pk1
          obtain ⟨a, rfl, h1⟩ := q1
          obtain ⟨vs, h2, h3⟩ := r1.obj _ a _ h1 hS
          cases hgx : g xs τ with
          | none => rw [hgx] at pk1; exact pk1.elim
          | some τ1 =>
            rw [hgx] at pk1
            exact ⟨a, vs, rfl, .inl (.inl h2), by rw [← h3.length]; exact hl, ι1, τ, S1, xs, τ1, r1, ρ.up e1, h3, hgx, fun σ' ρ' _ => pk1 _ _ σ' .refl r1 ρ'⟩
        · rw [if_neg hl] at pk1; exact pk1.elim
      | _ => exact pk1.elim
  | _ => exact pk1.elim
end
end PL
set_option maxHeartbeats 2000000
/-! PLS: list * int, str.index. -/
namespace PL
open PySem PySem.Spec PyProof.Rows L2
theorem q_mul_int (l : Addr) (items : Array Value) (n : Nat) (d : Option Addr) (sl : Array (Option Value)) (x : Int) (u : Tok) (hc0 : ¬(!Builtin.List.listFitsIndex x) = true)
    (hc1 : ¬items.size * x.toNat > (2 ^ 63 - 1) / 8) (hc2 : ¬Builtin.List.listTooLong (items.size * x.toNat) = true) :
    Meets (Builtin.«list.__mul__» ⟨[.ref l, .int x u], []⟩) (fun _ R s => s.heap.get? l = some { cls := .type "list", dict := d, data := .seq items n, slots := sl } ∧ R (.ok (.ret (Value.ref s.heap.objs.size))) { s with heap := s.heap.push { cls := Value.type "list", data := Data.seq (List.foldl (fun x1 x2 => x1 ++ x2) #[] (List.replicate (if items.isEmpty = true then 0 else x.toNat) items)) }, toks := s.toks }) :=
  .of_wp fun prog w A R s h => by
    obtain ⟨hp, g, d, tk, os⟩ := s; obtain ⟨hl, h⟩ := h
    have hsz := AutoListH.joined_fits hc2
    wp_walk; refine wpAny_ite_false (decide_eq_false (Nat.not_lt.mpr hsz)) ?_; wp_walk; exact ⟨_, rfl, h⟩
theorem q_rmul_int (a : Int) (t : Tok) (l : Addr) (items : Array Value) (n : Nat) (d : Option Addr) (sl : Array (Option Value)) :
    Meets (Builtin.«int.__rmul__» ⟨[.int a t, .ref l], []⟩) (fun _ R s => s.heap.get? l = some { cls := .type "list", dict := d, data := .seq items n, slots := sl } ∧ R (.ok (.ret Value.notImplemented)) s) :=
  .of_wp fun prog w A R s h => by obtain ⟨hp, g, d, tk, os⟩ := s; obtain ⟨hl, h⟩ := h; wp_walk; exact ⟨_, rfl, h⟩
theorem vals_rep {xs : List V} {its : List Value} (r : Vals xs its) : ∀ n : Nat, Vals (List.replicate n xs).flatten (List.replicate n its).flatten
  | 0 => .nil
  | n + 1 => by rw [List.replicate_succ, List.replicate_succ, List.flatten_cons, List.flatten_cons]; exact r.append (vals_rep r n)
theorem len_rep {α : Type} (xs : List α) : ∀ n : Nat, (List.replicate n xs).flatten.length = xs.length * n
  | 0 => by simp
  | n + 1 => by rw [List.replicate_succ, List.flatten_cons, List.length_append, len_rep xs n, Nat.mul_succ]; omega
theorem op_mul_li {X : Cx} : OpR X (binaryOp .Mult) (fun x y H Q => ∃ (a : Addr) (xs : List V) (k : Int), x = V.ref a ∧ y = V.int k ∧ SqL X.K H a xs ∧ k ≤ 1000 ∧ xs.length * k.toNat ≤ 16777216 ∧ (0 ≤ k) ∧ ∀ p, H p = none → Q (.ref p) (upd H p (.lst (List.replicate k.toNat xs).flatten))) := by
  intro pins s σ H x y v u Q I rx ry h
  obtain ⟨a, xs, k, rfl, rfl, hs, hk, hz2, hk0, q⟩ := h
  obtain rfl : v = Value.ref a := rx
  obtain ⟨t, rfl⟩ := ry
  obtain ⟨its, rv, ⟨⟨cls, dd, data, sl⟩, n, ho, hc, hdn, hd⟩, hlen⟩ := I.list hs
  have hc1 : cls = Value.type "list" := hc
  have hd1 : data = Data.seq its.toArray n := hd
  subst hc1 hd1
  have hsl := sizeLine_eq
  have hle : its.length = xs.length := rv.length.symm
  have hm : its.toArray.size * k.toNat ≤ 16777216 := by
    rw [List.size_toArray, hle]; exact hz2
  refine wpAny_binaryOp_repeat_ref (T := "list") (U := "int") (by decide) ⟨_, ho, rfl⟩ (fun s' => rfl) noFill_list_mul F.fills_int_mul F.slot_int_rmul repeat_list F.slot_int_index.lookup
    (call_meets F.slot_int_rmul rfl F.entry_int_rmul (F.args_int_rmul_2 _ _) (q_rmul_int k t a its.toArray n dd sl)
      ⟨ho, rfl, ⟨_, ho, rfl⟩, call_meets F.slot_list_mul ⟨_, ho, rfl⟩ F.entry_list_mul (F.args_list_mul_2 _ _)
        (q_mul_int a its.toArray n dd sl k t (by simp [Builtin.List.listFitsIndex]; omega) (by omega) (by simp only [Builtin.List.listTooLong, decide_eq_true_eq]; omega))
        ⟨ho, ?_⟩⟩)
  have e : List.foldl (fun x1 x2 => x1 ++ x2) #[] (List.replicate (if its.toArray.isEmpty = true then 0 else k.toNat) its.toArray) = (List.replicate k.toNat its).flatten.toArray := by
    rw [listMul_foldl_if]
  rw [e]
  refine ⟨.ref s.heap.objs.size, upd H s.heap.objs.size (.lst (List.replicate k.toNat xs).flatten), I.laid (t' := s.toks) (fun b o e => Heap.get?_push_of_some _ e) (Nat.le_refl _) ⟨?_, _, 0, vals_rep rv _, Heap.get?_push_size _ rfl⟩, rfl, q _ (I.hok.fresh (Nat.le_refl _))⟩
  rw [len_rep, hsl]; exact hz2
def mulLP : Op2 := fun p q S => match p, q with
  | .loc l, .int k => (match S[l]? with
    | some (.lst xs) => if 0 ≤ k ∧ k ≤ 1000 ∧ xs.length * k.toNat ≤ 16777216 then some (.loc S.length, S ++ [.lst (List.replicate k.toNat xs).flatten]) else none
    | _ => none)
  | _, _ => none
theorem RpL.rep {K : PySem.W.Frag} {ι : List Addr} {H : Hp} {xs : List PV} {vs : List V} (h : RpL K ι H xs vs) : ∀ n : Nat, RpL K ι H (List.replicate n xs).flatten (List.replicate n vs).flatten
  | 0 => rfl
  | n + 1 => by rw [List.replicate_succ, List.replicate_succ, List.flatten_cons, List.flatten_cons]; exact h.app (RpL.rep h n)
theorem og_mulL {X : Cx} : OpR X (binaryOp .Mult) (gOp X mulLP) := by
  intro pins s σ H x y v u Q I rx ry ⟨ι, S, p, q, z, S', rs, rp, rq, hf, k⟩
  unfold mulLP at hf
  split at hf
  · rename_i l n
    split at hf
    · rename_i xs hS
      split at hf
      · rename_i hc
        cases hf
        obtain ⟨a, rfl, h1⟩ := rp
        cases (show y = _ from rq)
        obtain ⟨vs, h2, h3⟩ := rs.obj _ a _ h1 hS
        refine op_mul_li pins s σ H _ _ v u Q I rx ry ⟨a, vs, n, rfl, rfl, .inl (.inl h2), hc.2.1, by rw [← h3.length]; exact hc.2.2, hc.1, fun p hp => ?_⟩
        obtain ⟨E, r4, q4⟩ := rs.new_lst hp (h3.rep n.toNat)
        exact k _ _ _ E r4 q4
      · cases hf
    · cases hf
  · cases hf
def sindexP : OpM := fun p ps S => match p, ps with
  | .str a, [.str b] => (match Builtin.Str.occurrences a b 0 a.length 1 with
    | i :: _ => some (.int ((i : Nat) : Int), S)
    | [] => none)
  | _, _ => none
theorem om_sindex {X : Cx} : MtR X "str.index" (gMt X sindexP) := by
  intro pins s σ H x xs v us Q I rx rxs ⟨ι, S, p, ps, w, S', rs, rp, rps, hf, k⟩
  unfold sindexP at hf
  split at hf
  · rename_i a b
    split at hf
    · rename_i i rest ho
      cases hf
      cases (show x = _ from rp)
      obtain ⟨y, rfl, h2⟩ := rpl1 rps
      cases (show y = _ from h2)
      exact mt_sindex pins s σ H _ _ v us Q I rx rxs ⟨a, b, i, rest, rfl, rfl, ho, k _ _ _ .refl rs rfl⟩
    · cases hf
  · cases hf
end PL
/-! PLV: reasoning about mirrors: evaluation rows, loops, frames, plain values. -/
namespace PL
open PySem PySem.Spec PyProof.Rows L2
/-! ### evaluation: continuations are constants, so that simp works at the head alone -/
section
variable {α β : Type}
def wK (f : α → Sto → Out β) (P : β → Sto → Prop) (R : Str → PV → Sto → Prop) : α → Sto → Prop := fun a S => wp (f a S) P R
def wKS (f : α → Sto → OS) (N : En → Sto → Prop) (T : PV → Sto → Prop) (R : Str → PV → En → Sto → Prop) : α → Sto → Prop := fun a S => wpS (f a S) N T R
def rK (R : Str → PV → En → Sto → Prop) (τ : En) : Str → PV → Sto → Prop := fun c p S => R c p τ S
def sK (k : SM) (N : En → Sto → Prop) (T : PV → Sto → Prop) (R : Str → PV → En → Sto → Prop) : En → Sto → Prop := fun τ S => wpS (k τ S) N T R
def nonK (P : PV → Sto → Prop) : En → Sto → Prop := fun _ S => P .non S
def dropK (R : Str → PV → Sto → Prop) : Str → PV → En → Sto → Prop := fun c p _ S => R c p S
def noK : Str → PV → Sto → Prop := fun _ _ _ => False
def newK (P : PV → Sto → Prop) : List PV → Sto → Prop := fun acc S => P (.loc S.length) (S ++ [.lst acc])
@[simp] theorem e_bnd (o : Out α) (f : α → Sto → Out β) (P : β → Sto → Prop) (R : Str → PV → Sto → Prop) : wp (bnd o f) P R = wp o (wK f P R) R := wp_bnd o f P R
@[simp] theorem e_bndS (o : Out α) (τ : En) (f : α → Sto → OS) (N : En → Sto → Prop) (T : PV → Sto → Prop) (R : Str → PV → En → Sto → Prop) : wpS (bndS o τ f) N T R = wp o (wKS f N T R) (rK R τ) := wpS_bndS o τ f N T R
@[simp] theorem e_seqO (o : OS) (k : SM) (N : En → Sto → Prop) (T : PV → Sto → Prop) (R : Str → PV → En → Sto → Prop) : wpS (seqO o k) N T R = wpS o (sK k N T R) T R := wpS_seqO o k N T R
@[simp] theorem e_wK (f : α → Sto → Out β) (P : β → Sto → Prop) (R : Str → PV → Sto → Prop) (a : α) (S : Sto) : wK f P R a S = wp (f a S) P R := rfl
@[simp] theorem e_wKS (f : α → Sto → OS) (N : En → Sto → Prop) (T : PV → Sto → Prop) (R : Str → PV → En → Sto → Prop) (a : α) (S : Sto) : wKS f N T R a S = wpS (f a S) N T R := rfl
@[simp] theorem e_rK (R : Str → PV → En → Sto → Prop) (τ : En) (c : Str) (p : PV) (S : Sto) : rK R τ c p S = R c p τ S := rfl
@[simp] theorem e_sK (k : SM) (N : En → Sto → Prop) (T : PV → Sto → Prop) (R : Str → PV → En → Sto → Prop) (τ : En) (S : Sto) : sK k N T R τ S = wpS (k τ S) N T R := rfl
@[simp] theorem e_nonK (P : PV → Sto → Prop) (τ : En) (S : Sto) : nonK P τ S = P .non S := rfl
@[simp] theorem e_dropK (R : Str → PV → Sto → Prop) (c : Str) (p : PV) (τ : En) (S : Sto) : dropK R c p τ S = R c p S := rfl
@[simp] theorem e_noK (c : Str) (p : PV) (S : Sto) : noK c p S = False := rfl
@[simp] theorem e_newK (P : PV → Sto → Prop) (acc : List PV) (S : Sto) : newK P acc S = P (.loc S.length) (S ++ [.lst acc]) := rfl
@[simp] theorem e_noEr (o : Out α) (P : α → Sto → Prop) (R : Str → PV → Sto → Prop) : wp (noEr o) P R = wp o P noK := by cases o <;> rfl
@[simp] theorem e_newL (o : Out (List PV)) (P : PV → Sto → Prop) (R : Str → PV → Sto → Prop) : wp (newL o) P R = wp o (newK P) R := by cases o <;> rfl
theorem callS_wp {n : Nat} {b : SM} {ps : List PV} {S : Sto} {P : PV → Sto → Prop} {R : Str → PV → Sto → Prop} : wp (callS n b ps S) P R = wpS (b (startE n ps) S) (nonK P) P (dropK R) := by
  unfold callS
  cases b (startE n ps) S <;> rfl
@[simp] theorem wp_ite {c : Prop} [Decidable c] {a b : Out α} {P : α → Sto → Prop} {R : Str → PV → Sto → Prop} : wp (if c then a else b) P R ↔ ((c → wp a P R) ∧ (¬ c → wp b P R)) := by
  split <;> simp_all
@[simp] theorem wpS_ite {c : Prop} [Decidable c] {a b : OS} {N : En → Sto → Prop} {T : PV → Sto → Prop} {R : Str → PV → En → Sto → Prop} : wpS (if c then a else b) N T R ↔ ((c → wpS a N T R) ∧ (¬ c → wpS b N T R)) := by
  split <;> simp_all
/-! outcomes read off -/
def retO : PV → Sto → Out PV := fun v S => .ok v S
def blO : PV → Sto → Out Bool := fun v S => match v with | .bl b => .ok b S | _ => .bad
def truO : PV → Sto → Out Bool := fun p S => match truP p S with | some b => .ok b S | none => .bad
def isNO : PV → Sto → Out PV := fun p S => .ok (.bl (isNon p)) S
def notNO : PV → Sto → Out PV := fun p S => .ok (.bl (!isNon p)) S
def notO : Bool → Sto → Out Bool := fun k S => .ok (!k) S
def notVO : PV → Sto → Out PV := fun v S => match v with | .bl k => .ok (.bl (!k)) S | _ => .bad
def oSO : PV → Sto → Out (Option Int) := fun p S => match p with | .int i => .ok (some i) S | _ => .bad
def tupO : List PV → Sto → Out PV := fun ps S => if ps.length ≤ 16777216 then .ok (.tup ps) S else .bad
def lstO : List PV → Sto → Out PV := fun ps S => if ps.length ≤ 16777216 then .ok (.loc S.length) (S ++ [.lst ps]) else .bad
def opO (f : Op2) (p : PV) : PV → Sto → Out PV := fun q S => lift (f p q S)
def unO (f : PV → Sto → Option (PV × Sto)) : PV → Sto → Out PV := fun p S => lift (f p S)
def callO (f : OpN) : List PV → Sto → Out PV := fun ps S => lift (f ps S)
def isiO (T : String) : PV → Sto → Out PV := fun p S => match isiP T p S with | some b => .ok (.bl b) S | none => .bad
def seqMO : PV → Sto → Out Wk := fun p S => match itrP p S with | some t => .ok t S | none => .bad
noncomputable def rng1O : PV → Sto → Out Wk := fun p S => match p with | .int n => if rngOk n then .ok ⟨rngI 0 n, []⟩ S else .bad | _ => .bad
noncomputable def rng2O (p : PV) : PV → Sto → Out Wk := fun q S => match p, q with | .int a, .int b => if rngOk a ∧ rngOk b then .ok ⟨rngI a b, []⟩ S else .bad | _, _ => .bad
def enumO : PV → Sto → Out Wk := fun p S1 => match p with
  | .fls xs => .ok ⟨enumI xs, []⟩ S1
  | .loc l => match S1[l]? with | some (.lst xs) => .ok ⟨enumI xs, [(l, xs)]⟩ S1 | _ => .bad
  | _ => .bad
def consO (p : PV) : List PV → Sto → Out (List PV) := fun ps S => .ok (p :: ps) S
def fldO (C f : Str) : PV → Sto → Out PV := fun p S1 => match p with
  | .loc l => match S1[l]? with
    | some (.ins C' fs) => if C' = C then (match fs.lookup f with | some v => .ok v S1 | none => .bad) else .bad
    | _ => .bad
  | _ => .bad
def setLenO : PV → Sto → Out PV := fun p S1 => match p with
  | .tup xs => (match keysP xs with | some ks => if ks.length ≤ 4000 then .ok (.int (onceK [] ks).length) S1 else .bad | none => .bad)
  | _ => .bad
def ownLenO : PV → Sto → Out PV := fun v S => match v with | .int n => if 0 ≤ n ∧ n < 4611686018427387904 then .ok (.int n) S else .bad | _ => .bad
def madeO (l : Nat) : PV → Sto → Out PV := fun v S => match v with | .non => .ok (.loc l) S | _ => .bad
def nxO (τ : En) : PV → Sto → OS := fun _ S => .nx τ S
def rtO : PV → Sto → OS := fun v S => .rt v S
def asgO (g : GM) (τ : En) : PV → Sto → OS := fun v S => match g v τ with | some τ1 => .nx τ1 S | none => .bad
def setO3 (τ : En) (v o : PV) : PV → Sto → OS := fun i S => match setP o i v S with | some S4 => .nx τ S4 | none => .bad
def setfO (C f : Str) (τ : En) (v : PV) : PV → Sto → OS := fun p S2 => match p with
  | .loc l => match S2[l]? with
    | some (.ins C' fs) => if C' = C ∧ fs.length < 1000 then .nx τ (S2.set l (.ins C (putG f v fs))) else .bad
    | _ => .bad
  | _ => .bad
def augO (i : Nat) (τ : En) (f : Op2) (x : PV) : PV → Sto → OS := fun y S => match f x y S with | some (z, S2) => .nx (τ.set i (some z)) S2 | none => .bad
/-! what is done next -/
def bin1 (f : Op2) (b : EM PV) (τ : En) : PV → Sto → Out PV := fun p S => bnd (b τ S) (opO f p)
def ch1 (f f' : Op2) (b c : EM PV) (τ : En) : PV → Sto → Out PV := fun p S => bnd (b τ S) fun q S2 => bnd (lift (f p q S2)) fun v S3 =>
  match v with | .bl true => bnd (c τ S3) fun z S4 => lift (f' q z S4) | .bl false => .ok (.bl false) S3 | _ => .bad
def ch2 (f f' : Op2) (c : EM PV) (τ : En) (p : PV) : PV → Sto → Out PV := fun q S2 => bnd (lift (f p q S2)) fun v S3 =>
  match v with | .bl true => bnd (c τ S3) fun z S4 => lift (f' q z S4) | .bl false => .ok (.bl false) S3 | _ => .bad
def ch3 (f' : Op2) (c : EM PV) (τ : En) (q : PV) : PV → Sto → Out PV := fun v S3 => match v with | .bl true => bnd (c τ S3) fun z S4 => lift (f' q z S4) | .bl false => .ok (.bl false) S3 | _ => .bad
def andO (t : EM Bool) (τ : En) : Bool → Sto → Out Bool := fun k S => if k = true then t τ S else .ok false S
def orO (t : EM Bool) (τ : En) : Bool → Sto → Out Bool := fun k S => if k = true then .ok true S else t τ S
def andVO (t : EM PV) (τ : En) : PV → Sto → Out PV := fun v S => match v with | .bl true => t τ S | .bl false => .ok (.bl false) S | _ => .bad
def orVO (t : EM PV) (τ : En) : PV → Sto → Out PV := fun v S => match v with | .bl true => .ok (.bl true) S | .bl false => t τ S | _ => .bad
def orTO (t : EM PV) (τ : En) : PV → Sto → Out PV := fun v S => match truP v S with | some true => .ok v S | some false => t τ S | none => .bad
def ifO {γ : Type} (s t : EM γ) (τ : En) : Bool → Sto → Out γ := fun k S => if k = true then s τ S else t τ S
def aC1 (ms : EM (List PV)) (τ : En) : PV → Sto → Out (List PV) := fun p S => bnd (ms τ S) (consO p)
def sl1 (lo hi : EM (Option Int)) (τ : En) : PV → Sto → Out PV := fun p S => bnd (lo τ S) fun l S2 => bnd (hi τ S2) fun h S3 => lift (slP p l h S3)
def sl2 (hi : EM (Option Int)) (τ : En) (p : PV) : Option Int → Sto → Out PV := fun l S => bnd (hi τ S) fun h S3 => lift (slP p l h S3)
def sl3 (p : PV) (l : Option Int) : Option Int → Sto → Out PV := fun h S => lift (slP p l h S)
def mt1 (T : String) (f : OpM) (ms : EM (List PV)) (τ : En) : PV → Sto → Out PV := fun p S1 => if isTy T p S1 = true then bnd (ms τ S1) fun ps S2 => lift (f p ps S2) else .bad
def mt2 (f : OpM) (p : PV) : List PV → Sto → Out PV := fun ps S => lift (f p ps S)
noncomputable def rng2a (m' : EM PV) (τ : En) : PV → Sto → Out Wk := fun p S1 => bnd (m' τ S1) (rng2O p)
noncomputable def comp1 (g : GM) (tt : EM Bool) (el : EM PV) (vs : List Nat) (τ : En) : Wk → Sto → Out PV := fun t S1 => newL (accL t g (stepE tt el) [] t.items (wipeE τ vs) S1)
noncomputable def comp2a (g : GM) (tt : EM Bool) (m1 : EM Wk) (g1 : GM) (tt1 : EM Bool) (el : EM PV) (vs vs1 : List Nat) (τ : En) : Wk → Sto → Out PV := fun t S1 => newL (accL t g (stepI tt m1 g1 tt1 el vs1) [] t.items (wipeE τ vs) S1)
def m2a (f : PV → PV → PV → Sto → Option (PV × Sto)) (ma mb : EM PV) (τ : En) : PV → Sto → Out PV := fun d S1 => if isDct d S1 = true then bnd (ma τ S1) fun k S2 => bnd (mb τ S2) fun x S3 => lift (f d k x S3) else .bad
def m2b (f : PV → PV → PV → Sto → Option (PV × Sto)) (mb : EM PV) (τ : En) (d : PV) : PV → Sto → Out PV := fun k S2 => bnd (mb τ S2) fun x S3 => lift (f d k x S3)
def m2c (f : PV → PV → PV → Sto → Option (PV × Sto)) (d k : PV) : PV → Sto → Out PV := fun x S3 => lift (f d k x S3)
def m1a (f : PV → PV → Sto → Option (PV × Sto)) (ma : EM PV) (τ : En) : PV → Sto → Out PV := fun d S1 => if isDct d S1 = true then bnd (ma τ S1) fun k S2 => lift (f d k S2) else .bad
def m1b (f : PV → PV → Sto → Option (PV × Sto)) (d : PV) : PV → Sto → Out PV := fun k S2 => lift (f d k S2)
def meth1 (C m : Str) (F : FM) (g : List PV → List PV) (ms : EM (List PV)) (τ : En) : PV → Sto → Out PV := fun p S1 => if isIns C m p S1 = true then bnd (ms τ S1) fun ps S2 => F (p :: g ps) S2 else .bad
def meth2 (F : FM) (g : List PV → List PV) (p : PV) : List PV → Sto → Out PV := fun ps S2 => F (p :: g ps) S2
def make1 (C : Str) (F : FM) (g : List PV → List PV) : List PV → Sto → Out PV := fun ps S1 => bnd (F (.loc S1.length :: g ps) (S1 ++ [.ins C []])) (madeO S1.length)
def own1 (C : Str) (F : FM) : PV → Sto → Out PV := fun p S1 => if isIns C "" p S1 = true then bnd (F [p] S1) ownLenO else .bad
def ifK (s t : SM) (τ : En) : Bool → Sto → OS := fun k S => if k = true then s τ S else t τ S
def setO1 (mo mi : EM PV) (τ : En) : PV → Sto → OS := fun v S1 => bndS (mo τ S1) τ fun o S2 => bndS (mi τ S2) τ fun i S3 => match setP o i v S3 with | some S4 => .nx τ S4 | none => .bad
def setO2 (mi : EM PV) (τ : En) (v : PV) : PV → Sto → OS := fun o S2 => bndS (mi τ S2) τ fun i S3 => match setP o i v S3 with | some S4 => .nx τ S4 | none => .bad
def setf1 (C f : Str) (mo : EM PV) (τ : En) : PV → Sto → OS := fun v S => bndS (mo τ S) τ (setfO C f τ v)
noncomputable def for1 (g : GM) (b : SM) (τ : En) : Wk → Sto → OS := fun t S1 => forL t g b t.items τ S1
def step1 (el : EM PV) (acc : List PV) (τ : En) : Bool → Sto → Out (List PV) := fun k S1 => if k = true then bnd (noEr (el τ S1)) fun y S2 => if acc.length < 16777216 then .ok (acc ++ [y]) S2 else .bad else .ok acc S1
def step2 (acc : List PV) : PV → Sto → Out (List PV) := fun y S2 => if acc.length < 16777216 then .ok (acc ++ [y]) S2 else .bad
noncomputable def stepI1 (m1 : EM Wk) (g1 : GM) (tt1 : EM Bool) (el : EM PV) (vs1 : List Nat) (acc : List PV) (τ : En) : Bool → Sto → Out (List PV) := fun k S1 => if k = true then bnd (noEr (m1 τ S1)) fun t1 S2 => accL t1 g1 (stepE tt1 el) acc t1.items (wipeE τ vs1) S2 else .ok acc S1
noncomputable def stepI2 (g1 : GM) (tt1 : EM Bool) (el : EM PV) (vs1 : List Nat) (acc : List PV) (τ : En) : Wk → Sto → Out (List PV) := fun t1 S2 => accL t1 g1 (stepE tt1 el) acc t1.items (wipeE τ vs1) S2
@[simp] theorem e_retO (v : PV) (S : Sto) : retO v S = .ok v S := rfl
@[simp] theorem e_blO (b : Bool) (S : Sto) : blO (.bl b) S = .ok b S := rfl
@[simp] theorem e_truO (p : PV) (S : Sto) : truO p S = match truP p S with | some b => .ok b S | none => .bad := rfl
@[simp] theorem e_isNO (p : PV) (S : Sto) : isNO p S = .ok (.bl (isNon p)) S := rfl
@[simp] theorem e_notNO (p : PV) (S : Sto) : notNO p S = .ok (.bl (!isNon p)) S := rfl
@[simp] theorem e_notO (k : Bool) (S : Sto) : notO k S = .ok (!k) S := rfl
@[simp] theorem e_notVO (k : Bool) (S : Sto) : notVO (.bl k) S = .ok (.bl (!k)) S := rfl
@[simp] theorem e_oSO (i : Int) (S : Sto) : oSO (.int i) S = .ok (some i) S := rfl
@[simp] theorem e_tupO (ps : List PV) (S : Sto) : tupO ps S = if ps.length ≤ 16777216 then .ok (.tup ps) S else .bad := rfl
@[simp] theorem e_lstO (ps : List PV) (S : Sto) : lstO ps S = if ps.length ≤ 16777216 then .ok (.loc S.length) (S ++ [.lst ps]) else .bad := rfl
@[simp] theorem e_opO (f : Op2) (p q : PV) (S : Sto) : opO f p q S = lift (f p q S) := rfl
@[simp] theorem e_unO (f : PV → Sto → Option (PV × Sto)) (p : PV) (S : Sto) : unO f p S = lift (f p S) := rfl
@[simp] theorem e_callO (f : OpN) (ps : List PV) (S : Sto) : callO f ps S = lift (f ps S) := rfl
@[simp] theorem e_isiO (T : String) (p : PV) (S : Sto) : isiO T p S = match isiP T p S with | some b => .ok (.bl b) S | none => .bad := rfl
@[simp] theorem e_seqMO (p : PV) (S : Sto) : seqMO p S = match itrP p S with | some t => .ok t S | none => .bad := rfl
@[simp] theorem e_rng1O (n : Int) (S : Sto) : rng1O (.int n) S = if rngOk n then .ok ⟨rngI 0 n, []⟩ S else .bad := rfl
@[simp] theorem e_rng2O (a b : Int) (S : Sto) : rng2O (.int a) (.int b) S = if rngOk a ∧ rngOk b then .ok ⟨rngI a b, []⟩ S else .bad := rfl
@[simp] theorem e_enumO (p : PV) (S1 : Sto) : enumO p S1 = match p with | .fls xs => .ok ⟨enumI xs, []⟩ S1 | .loc l => (match S1[l]? with | some (.lst xs) => .ok ⟨enumI xs, [(l, xs)]⟩ S1 | _ => .bad) | _ => .bad := rfl
@[simp] theorem e_consO (p : PV) (ps : List PV) (S : Sto) : consO p ps S = .ok (p :: ps) S := rfl
@[simp] theorem e_fldO (C f : Str) (l : Nat) (S1 : Sto) : fldO C f (.loc l) S1 = match S1[l]? with | some (.ins C' fs) => if C' = C then (match fs.lookup f with | some v => .ok v S1 | none => .bad) else .bad | _ => .bad := rfl
@[simp] theorem e_setLenO (xs : List PV) (S1 : Sto) : setLenO (.tup xs) S1 = match keysP xs with | some ks => if ks.length ≤ 4000 then .ok (.int (onceK [] ks).length) S1 else .bad | none => .bad := rfl
@[simp] theorem e_ownLenO (n : Int) (S : Sto) : ownLenO (.int n) S = if 0 ≤ n ∧ n < 4611686018427387904 then .ok (.int n) S else .bad := rfl
@[simp] theorem e_madeO (l : Nat) (S : Sto) : madeO l .non S = .ok (.loc l) S := rfl
@[simp] theorem e_nxO (τ : En) (p : PV) (S : Sto) : nxO τ p S = .nx τ S := rfl
@[simp] theorem e_rtO (v : PV) (S : Sto) : rtO v S = .rt v S := rfl
@[simp] theorem e_asgO (g : GM) (τ : En) (v : PV) (S : Sto) : asgO g τ v S = match g v τ with | some τ1 => .nx τ1 S | none => .bad := rfl
@[simp] theorem e_setO3 (τ : En) (v o i : PV) (S : Sto) : setO3 τ v o i S = match setP o i v S with | some S4 => .nx τ S4 | none => .bad := rfl
@[simp] theorem e_setfO (C f : Str) (τ : En) (v : PV) (l : Nat) (S2 : Sto) : setfO C f τ v (.loc l) S2 = match S2[l]? with | some (.ins C' fs) => if C' = C ∧ fs.length < 1000 then .nx τ (S2.set l (.ins C (putG f v fs))) else .bad | _ => .bad := rfl
@[simp] theorem e_augO (i : Nat) (τ : En) (f : Op2) (x y : PV) (S : Sto) : augO i τ f x y S = match f x y S with | some (z, S2) => .nx (τ.set i (some z)) S2 | none => .bad := rfl
@[simp] theorem e_bin1 (f : Op2) (b : EM PV) (τ : En) (p : PV) (S : Sto) : bin1 f b τ p S = bnd (b τ S) (opO f p) := rfl
@[simp] theorem e_ch1 (f f' : Op2) (b c : EM PV) (τ : En) (p : PV) (S : Sto) : ch1 f f' b c τ p S = bnd (b τ S) (ch2 f f' c τ p) := rfl
@[simp] theorem e_ch2 (f f' : Op2) (c : EM PV) (τ : En) (p q : PV) (S : Sto) : ch2 f f' c τ p q S = bnd (lift (f p q S)) (ch3 f' c τ q) := rfl
@[simp] theorem e_ch3 (f' : Op2) (c : EM PV) (τ : En) (q : PV) (b : Bool) (S : Sto) : ch3 f' c τ q (.bl b) S = if b = true then bnd (c τ S) (opO f' q) else .ok (.bl false) S := by cases b <;> rfl
@[simp] theorem e_andO (t : EM Bool) (τ : En) (k : Bool) (S : Sto) : andO t τ k S = if k = true then t τ S else .ok false S := rfl
@[simp] theorem e_orO (t : EM Bool) (τ : En) (k : Bool) (S : Sto) : orO t τ k S = if k = true then .ok true S else t τ S := rfl
@[simp] theorem e_andVO (t : EM PV) (τ : En) (k : Bool) (S : Sto) : andVO t τ (.bl k) S = if k = true then t τ S else .ok (.bl false) S := by cases k <;> rfl
@[simp] theorem e_orVO (t : EM PV) (τ : En) (k : Bool) (S : Sto) : orVO t τ (.bl k) S = if k = true then .ok (.bl true) S else t τ S := by cases k <;> rfl
@[simp] theorem e_orTO (t : EM PV) (τ : En) (v : PV) (S : Sto) : orTO t τ v S = match truP v S with | some true => .ok v S | some false => t τ S | none => .bad := rfl
@[simp] theorem e_ifO {γ : Type} (s t : EM γ) (τ : En) (k : Bool) (S : Sto) : ifO s t τ k S = if k = true then s τ S else t τ S := rfl
@[simp] theorem e_aC1 (ms : EM (List PV)) (τ : En) (p : PV) (S : Sto) : aC1 ms τ p S = bnd (ms τ S) (consO p) := rfl
@[simp] theorem e_sl1 (lo hi : EM (Option Int)) (τ : En) (p : PV) (S : Sto) : sl1 lo hi τ p S = bnd (lo τ S) (sl2 hi τ p) := rfl
@[simp] theorem e_sl2 (hi : EM (Option Int)) (τ : En) (p : PV) (l : Option Int) (S : Sto) : sl2 hi τ p l S = bnd (hi τ S) (sl3 p l) := rfl
@[simp] theorem e_sl3 (p : PV) (l h : Option Int) (S : Sto) : sl3 p l h S = lift (slP p l h S) := rfl
@[simp] theorem e_mt1 (T : String) (f : OpM) (ms : EM (List PV)) (τ : En) (p : PV) (S : Sto) : mt1 T f ms τ p S = if isTy T p S = true then bnd (ms τ S) (mt2 f p) else .bad := rfl
@[simp] theorem e_mt2 (f : OpM) (p : PV) (ps : List PV) (S : Sto) : mt2 f p ps S = lift (f p ps S) := rfl
@[simp] theorem e_rng2a (m' : EM PV) (τ : En) (p : PV) (S : Sto) : rng2a m' τ p S = bnd (m' τ S) (rng2O p) := rfl
@[simp] theorem e_comp1 (g : GM) (tt : EM Bool) (el : EM PV) (vs : List Nat) (τ : En) (t : Wk) (S : Sto) : comp1 g tt el vs τ t S = newL (accL t g (stepE tt el) [] t.items (wipeE τ vs) S) := rfl
@[simp] theorem e_comp2a (g : GM) (tt : EM Bool) (m1 : EM Wk) (g1 : GM) (tt1 : EM Bool) (el : EM PV) (vs vs1 : List Nat) (τ : En) (t : Wk) (S : Sto) : comp2a g tt m1 g1 tt1 el vs vs1 τ t S = newL (accL t g (stepI tt m1 g1 tt1 el vs1) [] t.items (wipeE τ vs) S) := rfl
@[simp] theorem e_m2a (f : PV → PV → PV → Sto → Option (PV × Sto)) (ma mb : EM PV) (τ : En) (d : PV) (S : Sto) : m2a f ma mb τ d S = if isDct d S = true then bnd (ma τ S) (m2b f mb τ d) else .bad := rfl
@[simp] theorem e_m2b (f : PV → PV → PV → Sto → Option (PV × Sto)) (mb : EM PV) (τ : En) (d k : PV) (S : Sto) : m2b f mb τ d k S = bnd (mb τ S) (m2c f d k) := rfl
@[simp] theorem e_m2c (f : PV → PV → PV → Sto → Option (PV × Sto)) (d k x : PV) (S : Sto) : m2c f d k x S = lift (f d k x S) := rfl
@[simp] theorem e_m1a (f : PV → PV → Sto → Option (PV × Sto)) (ma : EM PV) (τ : En) (d : PV) (S : Sto) : m1a f ma τ d S = if isDct d S = true then bnd (ma τ S) (m1b f d) else .bad := rfl
@[simp] theorem e_m1b (f : PV → PV → Sto → Option (PV × Sto)) (d k : PV) (S : Sto) : m1b f d k S = lift (f d k S) := rfl
@[simp] theorem e_meth1 (C m : Str) (F : FM) (g : List PV → List PV) (ms : EM (List PV)) (τ : En) (p : PV) (S : Sto) : meth1 C m F g ms τ p S = if isIns C m p S = true then bnd (ms τ S) (meth2 F g p) else .bad := rfl
@[simp] theorem e_meth2 (F : FM) (g : List PV → List PV) (p : PV) (ps : List PV) (S : Sto) : meth2 F g p ps S = F (p :: g ps) S := rfl
@[simp] theorem e_make1 (C : Str) (F : FM) (g : List PV → List PV) (ps : List PV) (S : Sto) : make1 C F g ps S = bnd (F (.loc S.length :: g ps) (S ++ [.ins C []])) (madeO S.length) := rfl
@[simp] theorem e_own1 (C : Str) (F : FM) (p : PV) (S : Sto) : own1 C F p S = if isIns C "" p S = true then bnd (F [p] S) ownLenO else .bad := rfl
@[simp] theorem e_ifK (s t : SM) (τ : En) (k : Bool) (S : Sto) : ifK s t τ k S = if k = true then s τ S else t τ S := rfl
@[simp] theorem e_setO1 (mo mi : EM PV) (τ : En) (v : PV) (S : Sto) : setO1 mo mi τ v S = bndS (mo τ S) τ (setO2 mi τ v) := rfl
@[simp] theorem e_setO2 (mi : EM PV) (τ : En) (v o : PV) (S : Sto) : setO2 mi τ v o S = bndS (mi τ S) τ (setO3 τ v o) := rfl
@[simp] theorem e_setf1 (C f : Str) (mo : EM PV) (τ : En) (v : PV) (S : Sto) : setf1 C f mo τ v S = bndS (mo τ S) τ (setfO C f τ v) := rfl
@[simp] theorem e_for1 (g : GM) (b : SM) (τ : En) (t : Wk) (S : Sto) : for1 g b τ t S = forL t g b t.items τ S := rfl
@[simp] theorem e_step1 (el : EM PV) (acc : List PV) (τ : En) (k : Bool) (S : Sto) : step1 el acc τ k S = if k = true then bnd (noEr (el τ S)) (step2 acc) else .ok acc S := rfl
@[simp] theorem e_step2 (acc : List PV) (y : PV) (S : Sto) : step2 acc y S = if acc.length < 16777216 then .ok (acc ++ [y]) S else .bad := rfl
@[simp] theorem e_stepI1 (m1 : EM Wk) (g1 : GM) (tt1 : EM Bool) (el : EM PV) (vs1 : List Nat) (acc : List PV) (τ : En) (k : Bool) (S : Sto) : stepI1 m1 g1 tt1 el vs1 acc τ k S = if k = true then bnd (noEr (m1 τ S)) (stepI2 g1 tt1 el vs1 acc τ) else .ok acc S := rfl
@[simp] theorem e_stepI2 (g1 : GM) (tt1 : EM Bool) (el : EM PV) (vs1 : List Nat) (acc : List PV) (τ : En) (t1 : Wk) (S : Sto) : stepI2 g1 tt1 el vs1 acc τ t1 S = accL t1 g1 (stepE tt1 el) acc t1.items (wipeE τ vs1) S := rfl
@[simp] theorem e_on1 (f : PV → Sto → Option (PV × Sto)) (p : PV) (S : Sto) : on1 f [p] S = f p S := rfl
@[simp] theorem e_on2 (f : PV → PV → Sto → Option (PV × Sto)) (p q : PV) (S : Sto) : on2 f [p, q] S = f p q S := rfl
variable (τ : En) (S : Sto)
@[simp] theorem e_vV (i : Nat) : vV i τ S = match τ[i]? with | some (some v) => .ok v S | _ => .bad := rfl
@[simp] theorem e_binM (f : Op2) (a b : EM PV) : binM f a b τ S = bnd (a τ S) (bin1 f b τ) := rfl
@[simp] theorem e_blM (m : EM PV) : blM m τ S = bnd (m τ S) blO := rfl
@[simp] theorem e_chainM (f f' : Op2) (a b c : EM PV) : chainM f f' a b c τ S = bnd (a τ S) (ch1 f f' b c τ) := rfl
@[simp] theorem e_isNM (m : EM PV) : isNM m τ S = bnd (m τ S) isNO := rfl
@[simp] theorem e_notNM (m : EM PV) : notNM m τ S = bnd (m τ S) notNO := rfl
@[simp] theorem e_truM (m : EM PV) : truM m τ S = bnd (m τ S) truO := rfl
@[simp] theorem e_andM (s t : EM Bool) : andM s t τ S = bnd (s τ S) (andO t τ) := rfl
@[simp] theorem e_orM (s t : EM Bool) : orM s t τ S = bnd (s τ S) (orO t τ) := rfl
@[simp] theorem e_notM (s : EM Bool) : notM s τ S = bnd (s τ S) notO := rfl
@[simp] theorem e_andV (s t : EM PV) : andV s t τ S = bnd (s τ S) (andVO t τ) := rfl
@[simp] theorem e_orV (s t : EM PV) : orV s t τ S = bnd (s τ S) (orVO t τ) := rfl
@[simp] theorem e_notV (s : EM PV) : notV s τ S = bnd (s τ S) notVO := rfl
@[simp] theorem e_orTM (s t : EM PV) : orTM s t τ S = bnd (s τ S) (orTO t τ) := rfl
@[simp] theorem e_ifM (c : EM Bool) (s t : EM PV) : ifM c s t τ S = bnd (c τ S) (ifO s t τ) := rfl
@[simp] theorem e_aN : aN τ S = .ok [] S := rfl
@[simp] theorem e_aC (m : EM PV) (ms : EM (List PV)) : aC m ms τ S = bnd (m τ S) (aC1 ms τ) := rfl
@[simp] theorem e_tupM (ms : EM (List PV)) : tupM ms τ S = bnd (ms τ S) tupO := rfl
@[simp] theorem e_lstM (ms : EM (List PV)) : lstM ms τ S = bnd (ms τ S) lstO := rfl
@[simp] theorem e_oN : oN τ S = .ok none S := rfl
@[simp] theorem e_oS (m : EM PV) : oS m τ S = bnd (m τ S) oSO := rfl
@[simp] theorem e_slM (m : EM PV) (lo hi : EM (Option Int)) : slM m lo hi τ S = bnd (m τ S) (sl1 lo hi τ) := rfl
@[simp] theorem e_unM (f : PV → Sto → Option (PV × Sto)) (m : EM PV) : unM f m τ S = bnd (m τ S) (unO f) := rfl
@[simp] theorem e_callM (f : OpN) (ms : EM (List PV)) : callM f ms τ S = bnd (ms τ S) (callO f) := rfl
@[simp] theorem e_isiM (T : String) (m : EM PV) : isiM T m τ S = bnd (m τ S) (isiO T) := rfl
@[simp] theorem e_mtM (T : String) (f : OpM) (m : EM PV) (ms : EM (List PV)) : mtM T f m ms τ S = bnd (m τ S) (mt1 T f ms τ) := rfl
@[simp] theorem e_callD (F : FM) (ms : EM (List PV)) : callD F ms τ S = bnd (ms τ S) F := rfl
@[simp] theorem e_seqM (m : EM PV) : seqM m τ S = bnd (m τ S) seqMO := rfl
@[simp] theorem e_rng1M (m : EM PV) : rng1M m τ S = bnd (m τ S) rng1O := rfl
@[simp] theorem e_rng2M (m m' : EM PV) : rng2M m m' τ S = bnd (m τ S) (rng2a m' τ) := rfl
@[simp] theorem e_enumM (m : EM PV) : enumM m τ S = bnd (m τ S) enumO := rfl
@[simp] theorem e_yesM : yesM τ S = .ok true S := rfl
@[simp] theorem e_compM (m : EM Wk) (g : GM) (tt : EM Bool) (el : EM PV) (vs : List Nat) : compM m g tt el vs τ S = bnd (m τ S) (comp1 g tt el vs τ) := rfl
@[simp] theorem e_comp2M (m : EM Wk) (g : GM) (tt : EM Bool) (m1 : EM Wk) (g1 : GM) (tt1 : EM Bool) (el : EM PV) (vs vs1 : List Nat) : comp2M m g tt m1 g1 tt1 el vs vs1 τ S = bnd (m τ S) (comp2a g tt m1 g1 tt1 el vs vs1 τ) := rfl
@[simp] theorem e_dictM : dictM τ S = .ok (.loc S.length) (S ++ [.dct []]) := rfl
@[simp] theorem e_m2M (f : PV → PV → PV → Sto → Option (PV × Sto)) (mo ma mb : EM PV) : m2M f mo ma mb τ S = bnd (mo τ S) (m2a f ma mb τ) := rfl
@[simp] theorem e_m1M (f : PV → PV → Sto → Option (PV × Sto)) (mo ma : EM PV) : m1M f mo ma τ S = bnd (mo τ S) (m1a f ma τ) := rfl
@[simp] theorem e_fldM (C f : Str) (m : EM PV) : fldM C f m τ S = bnd (m τ S) (fldO C f) := rfl
@[simp] theorem e_methM (C m : Str) (F : FM) (mo : EM PV) (ms : EM (List PV)) : methM C m F mo ms τ S = bnd (mo τ S) (meth1 C m F id ms τ) := rfl
@[simp] theorem e_methKM (C m : Str) (F : FM) (g : List PV → List PV) (mo : EM PV) (ms : EM (List PV)) : methKM C m F g mo ms τ S = bnd (mo τ S) (meth1 C m F g ms τ) := rfl
@[simp] theorem e_makeM (C : Str) (F : FM) (g : List PV → List PV) (ms : EM (List PV)) : makeM C F g ms τ S = bnd (ms τ S) (make1 C F g) := rfl
@[simp] theorem e_lenOwnM (C : Str) (F : FM) (m : EM PV) : lenOwnM C F m τ S = bnd (m τ S) (own1 C F) := rfl
@[simp] theorem e_lenSetM (m : EM PV) : lenSetM m τ S = bnd (m τ S) setLenO := rfl
@[simp] theorem e_nopS : nopS τ S = .nx τ S := rfl
@[simp] theorem e_seqS (s t : SM) : seqS s t τ S = seqO (s τ S) t := rfl
@[simp] theorem e_neverS : neverS τ S = .bad := rfl
@[simp] theorem e_exprS (m : EM PV) : exprS m τ S = bndS (m τ S) τ (nxO τ) := rfl
@[simp] theorem e_retS (m : EM PV) : retS m τ S = bndS (m τ S) τ rtO := rfl
@[simp] theorem e_retN : retN τ S = .rt .non S := rfl
@[simp] theorem e_ifS (c : EM Bool) (s t : SM) : ifS c s t τ S = bndS (c τ S) τ (ifK s t τ) := rfl
@[simp] theorem e_gN (i : Nat) (p : PV) : gN i p τ = some (τ.set i (some p)) := rfl
@[simp] theorem e_gsN : gsN [] τ = some τ := rfl
@[simp] theorem e_gsC (g : GM) (h : GMs) (p : PV) (r : List PV) : gsC g h (p :: r) τ = (g p τ).bind (h r) := rfl
@[simp] theorem e_gT (n : Nat) (g : GMs) (xs : List PV) : gT n g (.tup xs) τ = if xs.length = n then g xs τ else none := rfl
@[simp] theorem e_asgS (m : EM PV) (g : GM) : asgS m g τ S = bndS (m τ S) τ (asgO g τ) := rfl
@[simp] theorem e_setS (m mo mi : EM PV) : setS m mo mi τ S = bndS (m τ S) τ (setO1 mo mi τ) := rfl
@[simp] theorem e_augS (i : Nat) (f : Op2) (m : EM PV) : augS i f m τ S = match τ[i]? with | some (some x) => bndS (m τ S) τ (augO i τ f x) | _ => .bad := rfl
@[simp] theorem e_setfS (C f : Str) (m mo : EM PV) : setfS C f m mo τ S = bndS (m τ S) τ (setf1 C f mo τ) := rfl
@[simp] theorem e_forS (m : EM Wk) (g : GM) (b : SM) : forS m g b τ S = bndS (m τ S) τ (for1 g b τ) := rfl
end
/-! ### operations at known values -/
section
variable {α : Type} (S : Sto)
@[simp high] theorem wp_ite_bad {c : Prop} [Decidable c] {a : Out α} {P : α → Sto → Prop} {R : Str → PV → Sto → Prop} : wp (if c then a else .bad) P R ↔ (c ∧ wp a P R) := by
  split <;> simp_all
@[simp high] theorem wpS_ite_bad {c : Prop} [Decidable c] {a : OS} {N : En → Sto → Prop} {T : PV → Sto → Prop} {R : Str → PV → En → Sto → Prop} : wpS (if c then a else .bad) N T R ↔ (c ∧ wpS a N T R) := by
  split <;> simp_all
@[simp] theorem lift_ite {c : Prop} [Decidable c] {a b : Option (α × Sto)} : lift (if c then a else b) = if c then lift a else lift b := by split <;> rfl
@[simp] theorem bnd_ite {β : Type} {c : Prop} [Decidable c] {a b : Out α} {f : α → Sto → Out β} : bnd (if c then a else b) f = if c then bnd a f else bnd b f := by split <;> rfl
@[simp] theorem bndS_ite {c : Prop} [Decidable c] {a b : Out α} {τ : En} {f : α → Sto → OS} : bndS (if c then a else b) τ f = if c then bndS a τ f else bndS b τ f := by split <;> rfl
@[simp] theorem seqO_ite {c : Prop} [Decidable c] {a b : OS} {k : SM} : seqO (if c then a else b) k = if c then seqO a k else seqO b k := by split <;> rfl
@[simp] theorem addP_int (i j : Int) : addP (.int i) (.int j) S = some (.int (i + j), S) := rfl
@[simp] theorem addP_str (a b : Str) : addP (.str a) (.str b) S = if a.length + b.length ≤ 16777216 then some (.str (a ++ b), S) else none := rfl
@[simp] theorem addP_tup (a b : List PV) : addP (.tup a) (.tup b) S = if a.length + b.length ≤ 16777216 then some (.tup (a ++ b), S) else none := rfl
@[simp] theorem addP_loc (l k : Nat) : addP (.loc l) (.loc k) S = match S[l]?, S[k]? with
    | some (.lst a), some (.lst b) => if a.length + b.length ≤ 16777216 then some (.loc S.length, S ++ [.lst (a ++ b)]) else none
    | _, _ => none := rfl
@[simp] theorem subP_int (i j : Int) : subP (.int i) (.int j) S = some (.int (i - j), S) := rfl
@[simp] theorem mulP_int (i j : Int) : mulP (.int i) (.int j) S = if (-(2 ^ 64) < i ∧ i < 2 ^ 64) ∨ (-(2 ^ 64) < j ∧ j < 2 ^ 64) then some (.int (i * j), S) else none := rfl
@[simp] theorem mulP_str (x : Str) (n : Int) : mulP (.str x) (.int n) S = if 0 ≤ n ∧ n ≤ 1000000 ∧ x.length ≤ 16777216 ∧ x.length * n.toNat ≤ 16777216 then some (.str (Txt.mul x n), S) else none := rfl
@[simp] theorem fdivP_int (i j : Int) : fdivP (.int i) (.int j) S = if 0 < j ∧ j.natAbs < 1267650600228229401496703205376 then some (.int (i / j), S) else none := by
  show (if 0 < j ∧ j.natAbs < 1267650600228229401496703205376 then some (PV.int (i / j)) else none).map (fun v => (v, S)) = _
  split <;> rfl
@[simp] theorem modP_int (i j : Int) : modP (.int i) (.int j) S = if 0 < j then some (.int (i % j), S) else none := by
  show (if 0 < j then some (PV.int (i % j)) else none).map (fun v => (v, S)) = _
  split <;> rfl
@[simp] theorem powP_int (i j : Int) : powP (.int i) (.int j) S = if 0 ≤ j ∧ j ≤ 1000000 ∧ i.natAbs < 2 ^ 64 then some (.int (i ^ j.toNat), S) else none := by
  show (if 0 ≤ j ∧ j ≤ 1000000 ∧ i.natAbs < 2 ^ 64 then some (PV.int (i ^ j.toNat)) else none).map (fun v => (v, S)) = _
  split <;> rfl
@[simp] theorem ltP_int (i j : Int) : ltP (.int i) (.int j) S = some (.bl (decide (i < j)), S) := (rfl)
@[simp] theorem leP_int (i j : Int) : leP (.int i) (.int j) S = some (.bl (decide (i ≤ j)), S) := (rfl)
@[simp] theorem gtP_int (i j : Int) : gtP (.int i) (.int j) S = some (.bl (decide (j < i)), S) := (rfl)
@[simp] theorem geP_int (i j : Int) : geP (.int i) (.int j) S = some (.bl (decide (j ≤ i)), S) := (rfl)
@[simp] theorem eqP_ap (p q : PV) : eqP p q S = (eqB p q S).map fun b => (.bl b, S) := rfl
@[simp] theorem neP_ap (p q : PV) : neP p q S = (eqB p q S).map fun b => (.bl (!b), S) := rfl
@[simp] theorem inP_ap (p q : PV) : inP p q S = (inB p q S).map fun b => (.bl b, S) := rfl
@[simp] theorem notInP_ap (p q : PV) : notInP p q S = (inB p q S).map fun b => (.bl (!b), S) := rfl
@[simp] theorem eqB_int (i j : Int) : eqB (.int i) (.int j) S = some (decide (i = j)) := (rfl)
@[simp] theorem eqB_str (i j : Str) : eqB (.str i) (.str j) S = some (decide (i = j)) := (rfl)
@[simp] theorem eqB_bl (i j : Bool) : eqB (.bl i) (.bl j) S = some (decide (i = j)) := (rfl)
@[simp] theorem getP_tup (xs : List PV) (i : Int) : getP (.tup xs) (.int i) S = (atI xs i).map fun v => (v, S) := rfl
@[simp] theorem getP_fls (xs : List PV) (i : Int) : getP (.fls xs) (.int i) S = (atI xs i).map fun v => (v, S) := rfl
@[simp] theorem getP_str (x : Str) (i : Int) : getP (.str x) (.int i) S = if x.length ≤ 16777216 then (atI x.cps.toList i).map fun c => (.str ⟨#[c]⟩, S) else none := rfl
@[simp] theorem getP_loc (l : Nat) (i : Int) : getP (.loc l) (.int i) S = match S[l]? with | some (.lst xs) => (atI xs i).map fun v => (v, S) | _ => none := by
  unfold getP; cases h : S[l]? with
  | none => simp [h]
  | some o => cases o <;> simp [h]
@[simp] theorem atI_0 {β : Type} (x : β) (xs : List β) : atI (x :: xs) 0 = some x := by
  have e : ixN (x :: xs).length 0 = some 0 := by
    unfold ixN; rw [if_pos (by omega), if_pos (by simp only [List.length_cons]; omega)]; rfl
  unfold atI; rw [e]; rfl
@[simp] theorem atI_1 {β : Type} (x y : β) (xs : List β) : atI (x :: y :: xs) 1 = some y := by
  have e : ixN (x :: y :: xs).length 1 = some 1 := by
    unfold ixN; rw [if_pos (by omega), if_pos (by simp only [List.length_cons]; omega)]; rfl
  unfold atI; rw [e]; rfl
@[simp] theorem atI_2 {β : Type} (x y z : β) (xs : List β) : atI (x :: y :: z :: xs) 2 = some z := by
  have e : ixN (x :: y :: z :: xs).length 2 = some 2 := by
    unfold ixN; rw [if_pos (by omega), if_pos (by simp only [List.length_cons]; omega)]; rfl
  unfold atI; rw [e]; rfl
@[simp] theorem atI_3 {β : Type} (x y z w : β) (xs : List β) : atI (x :: y :: z :: w :: xs) 3 = some w := by
  have e : ixN (x :: y :: z :: w :: xs).length 3 = some 3 := by
    unfold ixN; rw [if_pos (by omega), if_pos (by simp only [List.length_cons]; omega)]; rfl
  unfold atI; rw [e]; rfl
theorem atI_nat {β : Type} {xs : List β} {i : Int} (h0 : 0 ≤ i) (h : i < xs.length) : ∃ x, atI xs i = some x ∧ xs[i.toNat]? = some x ∧ x ∈ xs := by
  have hlt : i.toNat < xs.length := by omega
  refine ⟨xs[i.toNat], ?_, List.getElem?_eq_getElem hlt, List.getElem_mem hlt⟩
  unfold atI ixN
  simp only [if_pos h0, if_pos h, Option.bind_some]
  exact List.getElem?_eq_getElem hlt
@[simp] theorem setP_loc (l : Nat) (k : Int) (v : PV) : setP (.loc l) (.int k) v S = match S[l]? with | some (.lst xs) => (ixN xs.length k).map fun j => S.set l (.lst (xs.set j v)) | _ => none := rfl
@[simp] theorem isTy_loc (T : String) (l : Nat) : isTy T (.loc l) S = match S[l]? with | some (.lst _) => T == "list" | some (.dct _) => T == "dict" | _ => false := rfl
@[simp] theorem isTy_str (T : String) (x : Str) : isTy T (.str x) S = (T == "str") := rfl
@[simp] theorem appendP_loc (l : Nat) (q : PV) : appendP (.loc l) [q] S = match S[l]? with | some (.lst xs) => if xs.length < 16777216 then some (.non, S.set l (.lst (xs ++ [q]))) else none | _ => none := rfl
@[simp] theorem extendP_loc (l m : Nat) : extendP (.loc l) [.loc m] S = match S[l]?, S[m]? with
    | some (.lst xs), some (.lst ys) => if xs.length + ys.length ≤ 16777216 then some (.non, S.set l (.lst (xs ++ ys))) else none
    | _, _ => none := rfl
@[simp] theorem insertP_loc (l : Nat) (i : Int) (q : PV) : insertP (.loc l) [.int i, q] S = match S[l]? with
    | some (.lst xs) => if xs.length < 16777216 ∧ 0 ≤ i ∧ i < 4611686018427387904 then some (.non, S.set l (.lst (xs.take i.toNat ++ [q] ++ xs.drop i.toNat))) else none
    | _ => none := rfl
@[simp] theorem popP_loc (l : Nat) (ps : List PV) : popP (.loc l) ps S = match S[l]? with
    | some (.lst xs) => match ps with
      | [] => (xs[xs.length - 1]?).map fun y => (y, S.set l (.lst xs.dropLast))
      | [.int i] => if -4611686018427387904 ≤ i ∧ i < 4611686018427387904 then (ixN xs.length i).bind fun j => (xs[j]?).map fun y => (y, S.set l (.lst (xs.eraseIdx j))) else none
      | _ => none
    | _ => none := rfl
@[simp] theorem reverseP_loc (l : Nat) : reverseP (.loc l) [] S = match S[l]? with | some (.lst xs) => some (.non, S.set l (.lst xs.reverse)) | _ => none := rfl
@[simp] theorem clearP_loc (l : Nat) : clearP (.loc l) [] S = match S[l]? with | some (.lst xs) => some (.non, S.set l (.lst [])) | _ => none := rfl
@[simp] theorem lenP_tup (xs : List PV) : lenP (.tup xs) S = some (.int xs.length, S) := rfl
@[simp] theorem lenP_fls (xs : List PV) : lenP (.fls xs) S = some (.int xs.length, S) := rfl
@[simp] theorem lenP_str (x : Str) : lenP (.str x) S = if x.length ≤ 16777216 then some (.int x.length, S) else none := rfl
@[simp] theorem lenP_loc (l : Nat) : lenP (.loc l) S = match S[l]? with | some (.lst xs) => some (.int xs.length, S) | some (.dct kvs) => some (.int kvs.length, S) | _ => none := rfl
@[simp] theorem itemsP_tup (xs : List PV) : itemsP (.tup xs) S = some xs := rfl
@[simp] theorem itemsP_fls (xs : List PV) : itemsP (.fls xs) S = some xs := rfl
@[simp] theorem itemsP_loc (l : Nat) : itemsP (.loc l) S = match S[l]? with | some (.lst xs) => some xs | _ => none := rfl
@[simp] theorem listP_ap (p : PV) : listP p S = (itemsP p S).map fun xs => (.loc S.length, S ++ [.lst xs]) := rfl
@[simp] theorem tupleP_ap (p : PV) : tupleP p S = (itemsP p S).map fun xs => (.tup xs, S) := rfl
@[simp] theorem allP_loc (l : Nat) : allP (.loc l) S = match S[l]? with | some (.lst xs) => (boolsP xs).map fun bs => (.bl (bs.all id), S) | _ => none := rfl
@[simp] theorem anyP_loc (l : Nat) : anyP (.loc l) S = match S[l]? with | some (.lst xs) => (boolsP xs).map fun bs => (.bl (bs.any id), S) | _ => none := rfl
@[simp] theorem intP_int (i : Int) : intP (.int i) S = some (.int i, S) := rfl
@[simp] theorem maxP_int (i j : Int) : maxP (.int i) (.int j) S = some (.int (if j > i then j else i), S) := rfl
@[simp] theorem minP_int (i j : Int) : minP (.int i) (.int j) S = some (.int (if j < i then j else i), S) := rfl
@[simp] theorem absP_int (i : Int) : absP (.int i) S = some (.int (if i < 0 then -i else i), S) := rfl
@[simp] theorem negP_int (i : Int) : negP (.int i) S = some (.int (-i), S) := rfl
@[simp] theorem revP_loc (l : Nat) : revP (.loc l) S = match S[l]? with | some (.lst xs) => some (.loc S.length, S ++ [.lst xs.reverse]) | _ => none := rfl
@[simp] theorem slP_tup (xs : List PV) (lo hi : Option Int) : slP (.tup xs) lo hi S = some (.tup (cutP xs lo hi), S) := rfl
@[simp] theorem slP_fls (xs : List PV) (lo hi : Option Int) : slP (.fls xs) lo hi S = some (.loc S.length, S ++ [.lst (cutP xs lo hi)]) := rfl
@[simp] theorem slP_str (x : Str) (lo hi : Option Int) : slP (.str x) lo hi S = if x.length ≤ 16777216 then some (.str (cutS x lo hi), S) else none := rfl
@[simp] theorem slP_loc (l : Nat) (lo hi : Option Int) : slP (.loc l) lo hi S = match S[l]? with | some (.lst xs) => some (.loc S.length, S ++ [.lst (cutP xs lo hi)]) | _ => none := rfl
@[simp] theorem itrP_tup (xs : List PV) : itrP (.tup xs) S = some ⟨xs, []⟩ := rfl
@[simp] theorem itrP_fls (xs : List PV) : itrP (.fls xs) S = some ⟨xs, []⟩ := rfl
@[simp] theorem itrP_str (x : Str) : itrP (.str x) S = some ⟨x.cps.toList.map fun c => .str ⟨#[c]⟩, []⟩ := rfl
@[simp] theorem itrP_loc (l : Nat) : itrP (.loc l) S = match S[l]? with | some (.lst xs) => some ⟨xs, [(l, xs)]⟩ | _ => none := rfl
@[simp] theorem wk_ok0 (xs : List PV) : (Wk.ok ⟨xs, []⟩ S) = True := by simp [Wk.ok]
@[simp] theorem wk_ok1 (xs ys : List PV) (l : Nat) : (Wk.ok ⟨xs, [(l, ys)]⟩ S) = (S[l]? = some (.lst ys)) := by simp [Wk.ok]
@[simp] theorem truP_bl (b : Bool) : truP (.bl b) S = some b := rfl
@[simp] theorem truP_int (i : Int) : truP (.int i) S = some (i != 0) := rfl
@[simp] theorem truP_non : truP .non S = some false := rfl
@[simp] theorem isNon_non : isNon .non = true := rfl
@[simp] theorem isNon_bl (b : Bool) : isNon (.bl b) = false := rfl
@[simp] theorem isNon_int (i : Int) : isNon (.int i) = false := rfl
@[simp] theorem isNon_str (x : Str) : isNon (.str x) = false := rfl
@[simp] theorem isNon_tup (xs : List PV) : isNon (.tup xs) = false := rfl
@[simp] theorem isNon_fls (xs : List PV) : isNon (.fls xs) = false := rfl
@[simp] theorem isNon_loc (l : Nat) : isNon (.loc l) = false := rfl
@[simp] theorem isIns_loc (C m : Str) (l : Nat) : isIns C m (.loc l) S = match S[l]? with | some (.ins C' fs) => decide (C' = C) && (fs.lookup m).isNone | _ => false := rfl
@[simp] theorem isDct_loc (l : Nat) : isDct (.loc l) S = match S[l]? with | some (.dct _) => true | _ => false := rfl
@[simp] theorem keyP_int (i : Int) : keyP (.int i) = some (.inl i) := rfl
@[simp] theorem keyP_str (x : Str) : keyP (.str x) = some (.inr x) := rfl
@[simp] theorem setdefP_loc (l : Nat) (k x : PV) : setdefP (.loc l) k x S = match S[l]?, keyP k with
    | some (.dct kvs), some kk => if kvs.length < 16777216 then (match valP kvs kk with | some v => some (v, S) | none => some (x, S.set l (.dct (putP kvs kk x)))) else none
    | _, _ => none := rfl
@[simp] theorem get1P_loc (l : Nat) (k : PV) : get1P (.loc l) k S = match S[l]?, keyP k with | some (.dct kvs), some kk => some ((valP kvs kk).getD .non, S) | _, _ => none := rfl
@[simp] theorem get2P_loc (l : Nat) (k x : PV) : get2P (.loc l) k x S = match S[l]?, keyP k with | some (.dct kvs), some kk => some ((valP kvs kk).getD x, S) | _, _ => none := rfl
@[simp] theorem dgetP_loc (l : Nat) (q : PV) : dgetP (.loc l) q S = match S[l]?, keyP q with | some (.dct kvs), some k => (valP kvs k).map fun v => (v, S) | _, _ => none := rfl
@[simp] theorem joinP_str (a : Str) (q : PV) : joinP (.str a) [q] S = ((itemsP q S).bind strsP).bind fun ys => if (ys.map (·.length)).sum + ys.length * a.length ≤ 16777216 then some (.str (Txt.join a ys), S) else none := rfl
@[simp] theorem ixN_1_0 : ixN 1 0 = some 0 := by rfl
@[simp] theorem ixN_2_0 : ixN 2 0 = some 0 := by rfl
@[simp] theorem ixN_2_1 : ixN 2 1 = some 1 := by rfl
@[simp] theorem ixN_3_0 : ixN 3 0 = some 0 := by rfl
@[simp] theorem ixN_3_1 : ixN 3 1 = some 1 := by rfl
@[simp] theorem ixN_3_2 : ixN 3 2 = some 2 := by rfl
@[simp] theorem ixN_4_0 : ixN 4 0 = some 0 := by rfl
@[simp] theorem ixN_4_1 : ixN 4 1 = some 1 := by rfl
@[simp] theorem ixN_4_2 : ixN 4 2 = some 2 := by rfl
@[simp] theorem ixN_4_3 : ixN 4 3 = some 3 := by rfl
@[simp] theorem ixN_5_0 : ixN 5 0 = some 0 := by rfl
@[simp] theorem ixN_5_1 : ixN 5 1 = some 1 := by rfl
@[simp] theorem ixN_5_2 : ixN 5 2 = some 2 := by rfl
@[simp] theorem ixN_5_3 : ixN 5 3 = some 3 := by rfl
@[simp] theorem ixN_5_4 : ixN 5 4 = some 4 := by rfl
/-! types -/
@[simp] theorem isi_bool_bl (b : Bool) : isiP "bool" (.bl b) S = some true := by rfl
@[simp] theorem isi_bool_int (b : Int) : isiP "bool" (.int b) S = some false := by rfl
@[simp] theorem isi_bool_str (b : Str) : isiP "bool" (.str b) S = some false := by rfl
@[simp] theorem isi_bool_tup (b : List PV) : isiP "bool" (.tup b) S = some false := by rfl
@[simp] theorem isi_int_bl (b : Bool) : isiP "int" (.bl b) S = some true := by rfl
@[simp] theorem isi_int_int (b : Int) : isiP "int" (.int b) S = some true := by rfl
@[simp] theorem isi_int_str (b : Str) : isiP "int" (.str b) S = some false := by rfl
@[simp] theorem isi_int_tup (b : List PV) : isiP "int" (.tup b) S = some false := by rfl
@[simp] theorem isi_str_bl (b : Bool) : isiP "str" (.bl b) S = some false := by rfl
@[simp] theorem isi_str_int (b : Int) : isiP "str" (.int b) S = some false := by rfl
@[simp] theorem isi_str_str (b : Str) : isiP "str" (.str b) S = some true := by rfl
@[simp] theorem isi_str_tup (b : List PV) : isiP "str" (.tup b) S = some false := by rfl
@[simp] theorem isi_list_bl (b : Bool) : isiP "list" (.bl b) S = some false := by rfl
@[simp] theorem isi_list_int (b : Int) : isiP "list" (.int b) S = some false := by rfl
@[simp] theorem isi_list_str (b : Str) : isiP "list" (.str b) S = some false := by rfl
@[simp] theorem isi_list_tup (b : List PV) : isiP "list" (.tup b) S = some false := by rfl
@[simp] theorem isi_tuple_bl (b : Bool) : isiP "tuple" (.bl b) S = some false := by rfl
@[simp] theorem isi_tuple_int (b : Int) : isiP "tuple" (.int b) S = some false := by rfl
@[simp] theorem isi_tuple_str (b : Str) : isiP "tuple" (.str b) S = some false := by rfl
@[simp] theorem isi_tuple_tup (b : List PV) : isiP "tuple" (.tup b) S = some true := by rfl
theorem isi_loc_lst {T : String} {l : Nat} {xs : List PV} (h : S[l]? = some (.lst xs)) : isiP T (.loc l) S = kitB "list" T := by
  simp [isiP, tyNm, h]
@[simp] theorem kit_lb : kitB "list" "bool" = some false := by rfl
@[simp] theorem kit_li : kitB "list" "int" = some false := by rfl
@[simp] theorem kit_ls : kitB "list" "str" = some false := by rfl
@[simp] theorem kit_ll : kitB "list" "list" = some true := by rfl
@[simp] theorem kit_lt : kitB "list" "tuple" = some false := by rfl
end
/-! ### loops -/
section
variable {N : En → Sto → Prop} {T : PV → Sto → Prop} {R : Str → PV → En → Sto → Prop}
/-- for over what stands still; Inv of what is done and what is left -/
theorem forL_inv {t : Wk} {g : GM} {b : SM} (Inv : List PV → List PV → En → Sto → Prop) {items : List PV} {τ : En} {S : Sto} (h0 : Inv [] items τ S)
    (hs : ∀ dn p rs τ S, items = dn ++ p :: rs → Inv dn (p :: rs) τ S → t.ok S ∧ ∃ τ1, g p τ = some τ1 ∧ wpS (b τ1 S) (Inv (dn ++ [p]) rs) T R)
    (he : ∀ τ S, Inv items [] τ S → t.ok S ∧ N τ S) : wpS (forL t g b items τ S) N T R := by
  have key : ∀ (rs dn : List PV) (τ : En) (S : Sto), items = dn ++ rs → Inv dn rs τ S → wpS (forL t g b rs τ S) N T R := by
    intro rs
    induction rs with
    | nil =>
      intro dn τ S e h
      have e' : items = dn := by simpa using e
      subst e'
      obtain ⟨h1, h2⟩ := he τ S h
      simp only [forL, if_pos h1]
      exact h2
    | cons p rs ih =>
      intro dn τ S e h
      obtain ⟨h1, τ1, h2, h3⟩ := hs dn p rs τ S e h
      simp only [forL, if_pos h1, h2]
      rw [wpS_seqO]
      exact wpS_mono h3 (fun τ' S' hh => ih (dn ++ [p]) τ' S' (by rw [e]; simp) hh) (fun _ _ k => k) fun _ _ _ _ k => k
  exact key items [] τ S rfl h0
theorem accL_inv {P : List PV → Sto → Prop} {R : Str → PV → Sto → Prop} {t : Wk} {g : GM} {st : List PV → En → Sto → Out (List PV)} (Inv : List PV → List PV → List PV → Sto → Prop) {items : List PV} {acc : List PV} {τ : En} {S : Sto} (h0 : Inv [] items acc S)
    (hs : ∀ dn p rs acc S, items = dn ++ p :: rs → Inv dn (p :: rs) acc S → t.ok S ∧ ∃ τ1, g p τ = some τ1 ∧ wp (st acc τ1 S) (Inv (dn ++ [p]) rs) R)
    (he : ∀ acc S, Inv items [] acc S → t.ok S ∧ P acc S) : wp (accL t g st acc items τ S) P R := by
  have key : ∀ (rs dn acc : List PV) (S : Sto), items = dn ++ rs → Inv dn rs acc S → wp (accL t g st acc rs τ S) P R := by
    intro rs
    induction rs with
    | nil =>
      intro dn acc S e h
      have e' : items = dn := by simpa using e
      subst e'
      obtain ⟨h1, h2⟩ := he acc S h
      rw [accL_nil, if_pos h1]
      exact h2
    | cons p rs ih =>
      intro dn acc S e h
      obtain ⟨h1, τ1, h2, h3⟩ := hs dn p rs acc S e h
      simp only [accL, if_pos h1, h2]
      rw [wp_bnd]
      exact wp_mono h3 (fun a S' hh => ih (dn ++ [p]) a S' (by rw [e]; simp) hh) fun _ _ _ k => k
  exact key items [] acc S rfl h0
theorem stepE_wp {tt : EM Bool} {el : EM PV} {acc : List PV} {τ : En} {S : Sto} {P : List PV → Sto → Prop} {R : Str → PV → Sto → Prop} :
    wp (stepE tt el acc τ S) P R = wp (tt τ S) (wK (step1 el acc τ) P R) noK := by
  show wp (bnd (noEr (tt τ S)) (step1 el acc τ)) P R = _
  rw [wp_bnd, e_noEr]
  rfl
theorem stepI_wp {tt : EM Bool} {m1 : EM Wk} {g1 : GM} {tt1 : EM Bool} {el : EM PV} {vs1 : List Nat} {acc : List PV} {τ : En} {S : Sto} {P : List PV → Sto → Prop} {R : Str → PV → Sto → Prop} :
    wp (stepI tt m1 g1 tt1 el vs1 acc τ S) P R = wp (tt τ S) (wK (stepI1 m1 g1 tt1 el vs1 acc τ) P R) noK := by
  show wp (bnd (noEr (tt τ S)) (stepI1 m1 g1 tt1 el vs1 acc τ)) P R = _
  rw [wp_bnd, e_noEr]
  rfl
theorem whileN_mono {c : EM Bool} {b : SM} : ∀ (n m : Nat) (τ : En) (S : Sto), n ≤ m → whileN c b n τ S ≠ .bad → whileN c b m τ S = whileN c b n τ S := by
  intro n
  induction n with
  | zero => intro m τ S _ h; exact absurd rfl h
  | succ n ih =>
    intro m τ S hm h
    obtain ⟨m, rfl⟩ : ∃ k, m = k + 1 := ⟨m - 1, by omega⟩
    simp only [whileN] at h ⊢
    cases hc : c τ S with
    | er c p S1 => rfl
    | bad => rfl
    | ok k S1 =>
      rw [hc] at h
      simp only [bndS_ok] at h ⊢
      by_cases hk : k = true
      · rw [if_pos hk] at h ⊢
        rw [if_pos hk]
        cases hb : b τ S1 with
        | rt v S2 => rfl
        | er c p τ' S2 => rfl
        | bad => rfl
        | nx τ' S2 =>
          rw [hb] at h
          simp only [seqO_nx] at h ⊢
          exact ih m τ' S2 (by omega) h
      · rw [if_neg hk, if_neg hk]
theorem whileS_of {c : EM Bool} {b : SM} {n : Nat} {τ : En} {S : Sto} (h : wpS (whileN c b n τ S) N T R) : wpS (whileS c b τ S) N T R := by
  have hne : whileN c b n τ S ≠ .bad := fun z => by rw [z] at h; exact h
  unfold whileS
  have hx : ∃ n, whileN c b n τ S ≠ .bad := ⟨n, hne⟩
  rw [dif_pos hx]
  have h2 := Classical.choose_spec hx
  generalize Classical.choose hx = m at h2 ⊢
  rcases Nat.le_total n m with q | q
  · rw [whileN_mono n m τ S q hne]; exact h
  · rw [← whileN_mono m n τ S q h2]; exact h
/-- while: Inv of a measure that falls -/
theorem while_inv {c : EM Bool} {b : SM} (Inv : Nat → En → Sto → Prop) {m : Nat} {τ : En} {S : Sto} (h0 : Inv m τ S)
    (hs : ∀ m τ S, Inv m τ S → wp (c τ S) (fun k S1 => (k = true → wpS (b τ S1) (fun τ' S' => ∃ j, j < m ∧ Inv j τ' S') T R) ∧ (k = false → N τ S1)) (fun c p S1 => R c p τ S1)) : wpS (whileS c b τ S) N T R := by
  suffices hh : ∀ m τ S, Inv m τ S → ∃ n, wpS (whileN c b n τ S) N T R by
    obtain ⟨n, h⟩ := hh m τ S h0
    exact whileS_of h
  intro m
  induction m using Nat.strongRecOn with
  | ind m ih =>
    intro τ S h
    have h1 := hs m τ S h
    cases hc : c τ S with
    | bad => rw [hc] at h1; exact h1.elim
    | er c' p S1 => rw [hc] at h1; exact ⟨1, by simp only [whileN, hc]; exact h1⟩
    | ok k S1 =>
      rw [hc] at h1
      obtain ⟨ht, hf⟩ := h1
      cases k with
      | false => exact ⟨1, by simp only [whileN, hc]; exact hf rfl⟩
      | true =>
        have h2 := ht rfl
        cases hb : b τ S1 with
        | bad => rw [hb] at h2; exact h2.elim
        | rt v S2 => rw [hb] at h2; exact ⟨1, by simp only [whileN, hc, bndS_ok, if_true, hb]; exact h2⟩
        | er c' p τ' S2 => rw [hb] at h2; exact ⟨1, by simp only [whileN, hc, bndS_ok, if_true, hb]; exact h2⟩
        | nx τ' S2 =>
          rw [hb] at h2
          obtain ⟨j, hj, hi⟩ := h2
          obtain ⟨n, hn⟩ := ih j hj τ' S2 hi
          exact ⟨n + 1, by simp only [whileN, hc, bndS_ok, if_true, hb, seqO_nx]; exact hn⟩
end
/-! ### frames -/
def Keep (M : List Nat) (S S' : Sto) : Prop := S.length ≤ S'.length ∧ ∀ l, l < S.length → l ∉ M → S'[l]? = S[l]?
section
variable {M : List Nat} {S S1 S2 : Sto} {l : Nat} {o : Ob}
theorem lt_of_get (h : S[l]? = some o) : l < S.length := (List.getElem?_eq_some_iff.mp h).1
theorem Keep.refl : Keep M S S := ⟨Nat.le_refl _, fun _ _ _ => rfl⟩
theorem Keep.trans (a : Keep M S S1) (b : Keep M S1 S2) : Keep M S S2 := ⟨Nat.le_trans a.1 b.1, fun l h n => (b.2 l (Nat.lt_of_lt_of_le h a.1) n).trans (a.2 l h n)⟩
theorem Keep.mono {M' : List Nat} (a : Keep M S S1) (h : ∀ x ∈ M, x < S.length → x ∈ M') : Keep M' S S1 := ⟨a.1, fun l hl n => a.2 l hl fun m => n (h l m hl)⟩
theorem Keep.get (k : Keep M S S1) (h : S[l]? = some o) (n : l ∉ M) : S1[l]? = some o := (k.2 l (lt_of_get h) n).trans h
theorem Keep.lt (k : Keep M S S1) (h : l < S.length) : l < S1.length := Nat.lt_of_lt_of_le h k.1
theorem Keep.app : Keep M S (S ++ [o]) := ⟨by simp, fun l h _ => List.getElem?_append_left h⟩
theorem Keep.set (h : l ∈ M) : Keep M S (S.set l o) := ⟨by simp, fun i _ n => List.getElem?_set_ne fun z => n (by rw [← z]; exact h)⟩
theorem app_new : (S ++ [o])[S.length]? = some o := by simp
theorem set_get {o' : Ob} (h : S[l]? = some o') : (S.set l o)[l]? = some o := List.getElem?_set_self (lt_of_get h)
end
/-! ### plain values -/
mutual
def Pl : Nat → PV → Prop
  | _, .non => True
  | _, .int _ => True
  | _, .str x => x.cps.all (· < 0x110000) = true
  | 0, _ => False
  | n + 1, .tup xs => PlL n xs
  | _, _ => False
def PlL : Nat → List PV → Prop
  | _, [] => True
  | n, x :: xs => Pl n x ∧ PlL n xs
end
theorem PlL_iff {n : Nat} : ∀ {xs : List PV}, PlL n xs ↔ ∀ x ∈ xs, Pl n x
  | [] => by simp [PlL]
  | x :: xs => by simp [PlL, PlL_iff (xs := xs)]
mutual
theorem Pl.up : ∀ (n : Nat) (p : PV), Pl n p → Pl (n + 1) p
  | _, .non, _ => by simp [Pl]
  | _, .int _, _ => by simp [Pl]
  | n, .str x, h => by cases n <;> simpa [Pl] using h
  | 0, .tup _, h => by simp [Pl] at h
  | n + 1, .tup xs, h => by
    have h' : PlL n xs := by simpa [Pl] using h
    have := PlL.up n xs h'
    simpa [Pl] using this
  | n, .bl _, h => by cases n <;> simp [Pl] at h
  | n, .fls _, h => by cases n <;> simp [Pl] at h
  | n, .loc _, h => by cases n <;> simp [Pl] at h
theorem PlL.up : ∀ (n : Nat) (xs : List PV), PlL n xs → PlL (n + 1) xs
  | _, [], _ => by simp [PlL]
  | n, x :: xs, h => by
    have h' : Pl n x ∧ PlL n xs := by simpa [PlL] using h
    exact ⟨Pl.up n x h'.1, PlL.up n xs h'.2⟩
end
theorem Pl.le {n m : Nat} {p : PV} (h : Pl n p) (k : n ≤ m) : Pl m p := by
  induction k with
  | refl => exact h
  | step _ ih => exact Pl.up _ _ ih
mutual
theorem Pl.toD : ∀ (n : Nat) (p : PV), Pl n p → ∃ d, toD p = some d ∧ d.canLay0 = true ∧ d.depth ≤ n
  | _, .non, _ => ⟨_, rfl, rfl, Nat.zero_le _⟩
  | _, .int _, _ => ⟨_, rfl, rfl, Nat.zero_le _⟩
  | n, .str x, h => ⟨_, rfl, by cases n <;> simpa [Pl, PyData.canLay0, PyData.strOk] using h, Nat.zero_le _⟩
  | 0, .tup _, h => by simp [Pl] at h
  | n + 1, .tup xs, h => by
    obtain ⟨ds, h1, h2, h3⟩ := PlL.toD n xs (by simpa [Pl] using h)
    exact ⟨.tuple ds, by simp [PL.toD, h1], h2, by show PyData.depthAll ds + 1 ≤ n + 1; omega⟩
  | n, .bl _, h => by cases n <;> simp [Pl] at h
  | n, .fls _, h => by cases n <;> simp [Pl] at h
  | n, .loc _, h => by cases n <;> simp [Pl] at h
theorem PlL.toD : ∀ (n : Nat) (xs : List PV), PlL n xs → ∃ ds, toDL xs = some ds ∧ PyData.canLayAll0 ds = true ∧ PyData.depthAll ds ≤ n
  | _, [], _ => ⟨[], rfl, rfl, Nat.zero_le _⟩
  | n, x :: xs, h => by
    have h' : Pl n x ∧ PlL n xs := by simpa [PlL] using h
    obtain ⟨d, h1, h2, h3⟩ := Pl.toD n x h'.1
    obtain ⟨ds, h4, h5, h6⟩ := PlL.toD n xs h'.2
    exact ⟨d :: ds, by simp [PL.toDL, h1, h4], by simp [PyData.canLayAll0, h2, h5], by show max d.depth (PyData.depthAll ds) ≤ n; omega⟩
end
mutual
theorem Pl.eqv : ∀ (n : Nat) (p q : PV) (d e : PyData), Pl n p → Pl n q → toD p = some d → toD q = some e → (PyData.eqv d e = true ↔ p = q)
  | 0, .tup _, _, _, _, h, _, _, _ => by simp [Pl] at h
  | n, .bl _, _, _, _, h, _, _, _ => by cases n <;> simp [Pl] at h
  | n, .fls _, _, _, _, h, _, _, _ => by cases n <;> simp [Pl] at h
  | n, .loc _, _, _, _, h, _, _, _ => by cases n <;> simp [Pl] at h
  | n, .non, q, d, e, _, hq, h1, h2 => by
    cases q <;> first | (exfalso; revert hq; cases n <;> simp [Pl]; done) | skip
    all_goals (simp only [PL.toD, Option.some.injEq] at h1; subst h1)
    · simp only [PL.toD, Option.some.injEq] at h2; subst h2; simp [PyData.eqv]
    · simp only [PL.toD, Option.some.injEq] at h2; subst h2; simp [PyData.eqv]
    · simp only [PL.toD, Option.some.injEq] at h2; subst h2; simp [PyData.eqv]
    · simp only [PL.toD, Option.map_eq_some_iff] at h2; obtain ⟨_, _, rfl⟩ := h2; simp [PyData.eqv]
  | n, .int i, q, d, e, _, hq, h1, h2 => by
    cases q <;> first | (exfalso; revert hq; cases n <;> simp [Pl]; done) | skip
    all_goals (simp only [PL.toD, Option.some.injEq] at h1; subst h1)
    · simp only [PL.toD, Option.some.injEq] at h2; subst h2; simp [PyData.eqv]
    · simp only [PL.toD, Option.some.injEq] at h2; subst h2; simp [PyData.eqv]
    · simp only [PL.toD, Option.some.injEq] at h2; subst h2; simp [PyData.eqv]
    · simp only [PL.toD, Option.map_eq_some_iff] at h2; obtain ⟨_, _, rfl⟩ := h2; simp [PyData.eqv]
  | n, .str i, q, d, e, _, hq, h1, h2 => by
    cases q <;> first | (exfalso; revert hq; cases n <;> simp [Pl]; done) | skip
    all_goals (simp only [PL.toD, Option.some.injEq] at h1; subst h1)
    · simp only [PL.toD, Option.some.injEq] at h2; subst h2; simp [PyData.eqv]
    · simp only [PL.toD, Option.some.injEq] at h2; subst h2; simp [PyData.eqv]
    · simp only [PL.toD, Option.some.injEq] at h2; subst h2; simp [PyData.eqv]
    · simp only [PL.toD, Option.map_eq_some_iff] at h2; obtain ⟨_, _, rfl⟩ := h2; simp [PyData.eqv]
  | n + 1, .tup xs, q, d, e, hp, hq, h1, h2 => by
    simp only [PL.toD, Option.map_eq_some_iff] at h1
    obtain ⟨ds, h1, rfl⟩ := h1
    cases q <;> first | (exfalso; revert hq; simp [Pl]; done) | skip
    · simp only [PL.toD, Option.some.injEq] at h2; subst h2; simp [PyData.eqv]
    · simp only [PL.toD, Option.some.injEq] at h2; subst h2; simp [PyData.eqv]
    · simp only [PL.toD, Option.some.injEq] at h2; subst h2; simp [PyData.eqv]
    · rename_i ys
      simp only [PL.toD, Option.map_eq_some_iff] at h2
      obtain ⟨es, h2, rfl⟩ := h2
      have := PlL.eqv n xs ys ds es (by simpa [Pl] using hp) (by simpa [Pl] using hq) h1 h2
      simpa [PyData.eqv] using this
theorem PlL.eqv : ∀ (n : Nat) (xs ys : List PV) (ds es : List PyData), PlL n xs → PlL n ys → toDL xs = some ds → toDL ys = some es → (PyData.eqvAll ds es = true ↔ xs = ys)
  | n, [], [], ds, es, _, _, h1, h2 => by
    simp only [PL.toDL, Option.some.injEq] at h1 h2; subst h1; subst h2; simp [PyData.eqvAll]
  | n, [], y :: ys, ds, es, _, _, h1, h2 => by
    simp only [PL.toDL, Option.some.injEq, Option.bind_eq_some_iff, Option.map_eq_some_iff] at h1 h2
    obtain ⟨_, _, _, _, rfl⟩ := h2; subst h1; simp [PyData.eqvAll]
  | n, x :: xs, [], ds, es, _, _, h1, h2 => by
    simp only [PL.toDL, Option.some.injEq, Option.bind_eq_some_iff, Option.map_eq_some_iff] at h1 h2
    obtain ⟨_, _, _, _, rfl⟩ := h1; subst h2; simp [PyData.eqvAll]
  | n, x :: xs, y :: ys, ds, es, hp, hq, h1, h2 => by
    simp only [PL.toDL, Option.bind_eq_some_iff, Option.map_eq_some_iff] at h1 h2
    obtain ⟨d, a1, dt, a2, rfl⟩ := h1
    obtain ⟨e, b1, et, b2, rfl⟩ := h2
    have hp' : Pl n x ∧ PlL n xs := by simpa [PlL] using hp
    have hq' : Pl n y ∧ PlL n ys := by simpa [PlL] using hq
    have i1 := Pl.eqv n x y d e hp'.1 hq'.1 a1 b1
    have i2 := PlL.eqv n xs ys dt et hp'.2 hq'.2 a2 b2
    simp [PyData.eqvAll, i1, i2]
end
theorem toDS_plain {S : Sto} {n : Nat} {p : PV} (h : Pl n p) : toDS S p = toD p := by
  cases p <;> first | rfl | (exfalso; revert h; cases n <;> simp [Pl]; done)
theorem shaped_of {d : PyData} (h1 : d.canLay0 = true) (h2 : d.depth ≤ 64) : SeqAt.shaped d = true := by
  unfold SeqAt.shaped; simp [h1, h2]
theorem eqB_plain {n : Nat} {p q : PV} {S : Sto} (hn : n ≤ 64) (hp : Pl n p) (hq : Pl n q) : ∃ b, eqB p q S = some b ∧ (b = true ↔ p = q) := by
  obtain ⟨d, h1, h2, h3⟩ := Pl.toD n p hp
  obtain ⟨e, h4, h5, h6⟩ := Pl.toD n q hq
  unfold eqB
  split
  · exact ⟨_, rfl, by simp⟩
  · exact ⟨_, rfl, by simp⟩
  · exact ⟨_, rfl, by simp⟩
  · rw [toDS_plain hp, toDS_plain hq, h1, h4]
    simp only [shaped_of h2 (by omega), shaped_of h5 (by omega), and_self, if_true]
    exact ⟨_, rfl, Pl.eqv n p q d e hp hq h1 h4⟩
theorem eqB_lists {n : Nat} {l k : Nat} {xs ys : List PV} {S : Sto} (hn : n < 64) (hl : S[l]? = some (.lst xs)) (hk : S[k]? = some (.lst ys)) (hp : PlL n xs) (hq : PlL n ys) : ∃ b, eqB (.loc l) (.loc k) S = some b ∧ (b = true ↔ xs = ys) := by
  obtain ⟨d, h1, h2, h3⟩ := PlL.toD n xs hp
  obtain ⟨e, h4, h5, h6⟩ := PlL.toD n ys hq
  unfold eqB
  have hd : SeqAt.shaped (.list d) = true := shaped_of h2 (by show PyData.depthAll d + 1 ≤ 64; omega)
  have he : SeqAt.shaped (.list e) = true := shaped_of h5 (by show PyData.depthAll e + 1 ≤ 64; omega)
  simp only [toDS, hl, hk, h1, h4, Option.map_some, hd, he, and_self, if_true]
  exact ⟨_, rfl, by simpa [PyData.eqv] using PlL.eqv n xs ys d e hp hq h1 h4⟩

/-! ### loops, with what follows kept shut -/
section
variable {N : En → Sto → Prop} {T : PV → Sto → Prop} {R : Str → PV → En → Sto → Prop}
theorem for_wp {t : Wk} {g : GM} {b : SM} (Inv : List PV → List PV → En → Sto → Prop) {items : List PV} {τ : En} {S : Sto} (h0 : Inv [] items τ S)
    (hs : ∀ dn p rs τ S (J : En → Sto → Prop), items = dn ++ p :: rs → Inv dn (p :: rs) τ S → (∀ τ' S', Inv (dn ++ [p]) rs τ' S' → J τ' S') → t.ok S ∧ ∃ τ1, g p τ = some τ1 ∧ wpS (b τ1 S) J T R)
    (he : ∀ τ S, Inv items [] τ S → t.ok S ∧ N τ S) : wpS (forL t g b items τ S) N T R :=
  forL_inv Inv h0 (fun dn p rs τ S e h => hs dn p rs τ S _ e h fun _ _ k => k) he
theorem acc_wp {P : List PV → Sto → Prop} {R : Str → PV → Sto → Prop} {t : Wk} {g : GM} {st : List PV → En → Sto → Out (List PV)} (Inv : List PV → List PV → List PV → Sto → Prop) {items : List PV} {acc : List PV} {τ : En} {S : Sto} (h0 : Inv [] items acc S)
    (hs : ∀ dn p rs acc S (J : List PV → Sto → Prop), items = dn ++ p :: rs → Inv dn (p :: rs) acc S → (∀ a S', Inv (dn ++ [p]) rs a S' → J a S') → t.ok S ∧ ∃ τ1, g p τ = some τ1 ∧ wp (st acc τ1 S) J R)
    (he : ∀ acc S, Inv items [] acc S → t.ok S ∧ P acc S) : wp (accL t g st acc items τ S) P R :=
  accL_inv Inv h0 (fun dn p rs acc S e h => hs dn p rs acc S _ e h fun _ _ k => k) he
theorem while_wp {c : EM Bool} {b : SM} (Inv : Nat → En → Sto → Prop) {m : Nat} {τ : En} {S : Sto} (h0 : Inv m τ S)
    (hs : ∀ m τ S (C : Bool → Sto → Prop) (J : En → Sto → Prop), Inv m τ S → (∀ S1, wpS (b τ S1) J T R → C true S1) → (∀ S1, N τ S1 → C false S1) → (∀ j τ' S', j < m → Inv j τ' S' → J τ' S') → wp (c τ S) C (rK R τ)) : wpS (whileS c b τ S) N T R :=
  while_inv Inv h0 fun m τ S h => hs m τ S _ (fun τ' S' => ∃ j, j < m ∧ Inv j τ' S') h (fun S1 k => ⟨fun _ => k, fun z => by cases z⟩) (fun S1 k => ⟨fun z => by (cases z), fun _ => k⟩) fun j τ' S' hj hi => ⟨j, hj, hi⟩
theorem wpS_mid {o : OS} (M : En → Sto → Prop) (h : ∀ J : En → Sto → Prop, (∀ τ S, M τ S → J τ S) → wpS o J T R) (k : ∀ τ S, M τ S → N τ S) : wpS o N T R := h N k
theorem wp_mid {α : Type} {o : Out α} {P : α → Sto → Prop} {R' : Str → PV → Sto → Prop} (M : α → Sto → Prop) (h : ∀ J : α → Sto → Prop, (∀ a S, M a S → J a S) → wp o J R') (k : ∀ a S, M a S → P a S) : wp o P R' := h P k
end
theorem split3 {α β : Type} {f : α → β} {xs : List α} {dn rs : List β} {p : β} (h : xs.map f = dn ++ p :: rs) : ∃ a y b, xs = a ++ y :: b ∧ dn = a.map f ∧ p = f y ∧ rs = b.map f := by
  obtain ⟨a, c, h1, h2, h3⟩ := List.map_eq_append_iff.mp h
  obtain ⟨y, b, h4, h5, h6⟩ := List.map_eq_cons_iff.mp h3
  exact ⟨a, y, b, by rw [h1, h4], h2.symm, h5.symm, h6.symm⟩
/-- for over the pictures of a list of data -/
theorem forM_wp {α : Type} {N : En → Sto → Prop} {T : PV → Sto → Prop} {R : Str → PV → En → Sto → Prop} {t : Wk} {g : GM} {b : SM} (f : α → PV) {xs : List α} (Inv : List α → En → Sto → Prop) {τ : En} {S : Sto} (h0 : Inv [] τ S)
    (hs : ∀ dn x rs τ S (J : En → Sto → Prop), xs = dn ++ x :: rs → Inv dn τ S → (∀ τ' S', Inv (dn ++ [x]) τ' S' → J τ' S') → t.ok S ∧ ∃ τ1, g (f x) τ = some τ1 ∧ wpS (b τ1 S) J T R)
    (he : ∀ τ S, Inv xs τ S → t.ok S ∧ N τ S) : wpS (forL t g b (xs.map f) τ S) N T R := by
  have key : ∀ (rs dn : List α) (τ : En) (S : Sto), xs = dn ++ rs → Inv dn τ S → wpS (forL t g b (rs.map f) τ S) N T R := by
    intro rs
    induction rs with
    | nil =>
      intro dn τ S e h
      have e' : xs = dn := by simpa using e
      subst e'
      obtain ⟨h1, h2⟩ := he τ S h
      simp only [List.map_nil, forL, if_pos h1]
      exact h2
    | cons p rs ih =>
      intro dn τ S e h
      obtain ⟨h1, τ1, h2, h3⟩ := hs dn p rs τ S _ e h (fun τ' S' hh => ih (dn ++ [p]) τ' S' (by rw [e]; simp) hh)
      simp only [List.map_cons, forL, if_pos h1, h2]
      rw [wpS_seqO]
      exact h3
  exact key xs [] τ S rfl h0
theorem accM_wp {α : Type} {P : List PV → Sto → Prop} {R : Str → PV → Sto → Prop} {t : Wk} {g : GM} {st : List PV → En → Sto → Out (List PV)} (f : α → PV) {xs : List α} (Inv : List α → List PV → Sto → Prop) {acc : List PV} {τ : En} {S : Sto} (h0 : Inv [] acc S)
    (hs : ∀ dn x rs acc S (J : List PV → Sto → Prop), xs = dn ++ x :: rs → Inv dn acc S → (∀ a S', Inv (dn ++ [x]) a S' → J a S') → t.ok S ∧ ∃ τ1, g (f x) τ = some τ1 ∧ wp (st acc τ1 S) J R)
    (he : ∀ acc S, Inv xs acc S → t.ok S ∧ P acc S) : wp (accL t g st acc (xs.map f) τ S) P R := by
  have key : ∀ (rs dn : List α) (acc : List PV) (S : Sto), xs = dn ++ rs → Inv dn acc S → wp (accL t g st acc (rs.map f) τ S) P R := by
    intro rs
    induction rs with
    | nil =>
      intro dn acc S e h
      have e' : xs = dn := by simpa using e
      subst e'
      obtain ⟨h1, h2⟩ := he acc S h
      rw [List.map_nil, accL_nil, if_pos h1]
      exact h2
    | cons p rs ih =>
      intro dn acc S e h
      obtain ⟨h1, τ1, h2, h3⟩ := hs dn p rs acc S (fun a S => wp (accL t g st a (rs.map f) τ S) P R) e h (fun a S' hh => ih (dn ++ [p]) a S' (by rw [e]; simp) hh)
      simp only [List.map_cons, accL, if_pos h1, h2]
      rw [wp_bnd]
      exact h3
  exact key xs [] acc S rfl h0
/-! ### new objects, opaque behind -/
section
variable {P : PV → Sto → Prop} {R : Str → PV → Sto → Prop} {S : Sto} {xs ys : List PV} {l k : Nat} {p : PV}
theorem alloc_wp {Q : PV → Sto → Prop} {o : Ob} (h : ∀ n S', S'[n]? = some o → Keep [] S S' → S.length ≤ n → Q (.loc n) S') : Q (.loc S.length) (S ++ [o]) :=
  h _ _ app_new .app (Nat.le_refl _)
theorem new_wp (h : ∀ n S', S'[n]? = some (.lst xs) → Keep [] S S' → S.length ≤ n → P (.loc n) S') : newK P xs S := alloc_wp h
theorem lst_wp (hl : xs.length ≤ 16777216) (h : ∀ n S', S'[n]? = some (.lst xs) → Keep [] S S' → S.length ≤ n → P (.loc n) S') : wp (lstO xs S) P R := by
  rw [e_lstO, if_pos hl]; exact alloc_wp h
theorem addL_wp (h1 : S[l]? = some (.lst xs)) (h2 : S[k]? = some (.lst ys)) (hb : xs.length + ys.length ≤ 16777216) (h : ∀ n S', S'[n]? = some (.lst (xs ++ ys)) → Keep [] S S' → S.length ≤ n → P (.loc n) S') : wp (lift (addP (.loc l) (.loc k) S)) P R := by
  rw [addP_loc, h1, h2]
  simp only [if_pos hb, lift_some, wp_ok]
  exact alloc_wp h
theorem list_wp (h1 : itemsP p S = some xs) (h : ∀ n S', S'[n]? = some (.lst xs) → Keep [] S S' → S.length ≤ n → P (.loc n) S') : wp (lift (listP p S)) P R := by
  rw [listP_ap, h1]
  exact alloc_wp h
theorem slL_wp {lo hi : Option Int} (h1 : S[l]? = some (.lst xs)) (h : ∀ n S', S'[n]? = some (.lst (cutP xs lo hi)) → Keep [] S S' → S.length ≤ n → P (.loc n) S') : wp (lift (slP (.loc l) lo hi S)) P R := by
  rw [slP_loc, h1]
  exact alloc_wp h
end
/-- a comprehension that changes nothing -/
theorem acc_map {α : Type} {P : List PV → Sto → Prop} {R : Str → PV → Sto → Prop} {t : Wk} {g : GM} {st : List PV → En → Sto → Out (List PV)} (i f : α → PV) {xs : List α} {acc : List PV} {τ : En} {S : Sto} (hok : t.ok S) (hl : acc.length + xs.length ≤ 16777216)
    (hs : ∀ x ∈ xs, ∀ (acc : List PV) (J : List PV → Sto → Prop), acc.length < 16777216 → J (acc ++ [f x]) S → ∃ τ1, g (i x) τ = some τ1 ∧ wp (st acc τ1 S) J R)
    (he : P (acc ++ xs.map f) S) : wp (accL t g st acc (xs.map i) τ S) P R := by
  induction xs generalizing acc with
  | nil => rw [List.map_nil, accL_nil, if_pos hok]; simpa using he
  | cons x xs ih =>
    simp only [List.length_cons] at hl
    obtain ⟨τ1, h1, h2⟩ := hs x (by simp) acc (fun a S => wp (accL t g st a (xs.map i) τ S) P R) (by omega) (ih (acc := acc ++ [f x]) (by simp; omega) (fun y hy => hs y (by simp [hy])) (by simpa using he))
    simp only [List.map_cons, accL, if_pos hok, h1]
    rw [wp_bnd]
    exact h2
theorem strs_inj : ∀ {a b : List Str}, a.map PV.str = b.map PV.str → a = b
  | [], [], _ => rfl
  | [], _ :: _, h => by simp at h
  | _ :: _, [], h => by simp at h
  | x :: a, y :: b, h => by
    simp only [List.map_cons, List.cons.injEq, PV.str.injEq] at h
    rw [h.1, strs_inj h.2]
theorem strsP_comp {α : Type} (f : α → Str) (cs : List α) : strsP (cs.map fun c => PV.str (f c)) = some (cs.map f) := by
  induction cs with
  | nil => rfl
  | cons c cs ih => simp [strsP, ih]
theorem strsP_comp' {α : Type} (f : α → Str) (cs : List α) : strsP (cs.map (PV.str ∘ f)) = some (cs.map f) := strsP_comp f cs
end PL
/-! PLU: reasoning about raise and try. -/
namespace PL
open PySem PySem.Spec PyProof.Rows L2
def raO (C : Str) (τ : En) : PV → Sto → OS := fun v S => .er C v τ S
@[simp] theorem e_raO (C : Str) (τ : En) (v : PV) (S : Sto) : raO C τ v S = .er C v τ S := rfl
@[simp] theorem e_raiseS (C : Str) (m : EM PV) (τ : En) (S : Sto) : raiseS C m τ S = bndS (m τ S) τ (raO C τ) := rfl
def tryK (cs : List (Str × Bool)) (h : Str → PV → SM) (N : En → Sto → Prop) (T : PV → Sto → Prop) (R : Str → PV → En → Sto → Prop) : Str → PV → En → Sto → Prop := fun c p τ S =>
  match cs.lookup c with | some true => wpS (noErS (h c p τ S)) N T R | some false => R c p τ S | none => False
@[simp] theorem e_tryK (cs : List (Str × Bool)) (h : Str → PV → SM) (N : En → Sto → Prop) (T : PV → Sto → Prop) (R : Str → PV → En → Sto → Prop) (c : Str) (p : PV) (τ : En) (S : Sto) :
    tryK cs h N T R c p τ S = match cs.lookup c with | some true => wpS (noErS (h c p τ S)) N T R | some false => R c p τ S | none => False := rfl
@[simp] theorem e_tryS (cs : List (Str × Bool)) (b : SM) (h : Str → PV → SM) (τ : En) (S : Sto) (N : En → Sto → Prop) (T : PV → Sto → Prop) (R : Str → PV → En → Sto → Prop) : wpS (tryS cs b h τ S) N T R = wpS (b τ S) N T (tryK cs h N T R) := by
  unfold tryS
  cases b τ S with
  | nx τ S => rfl
  | rt v S => rfl
  | bad => rfl
  | er c p τ1 S1 =>
    simp only [wpS_er, e_tryK]
    cases cs.lookup c with
    | none => rfl
    | some b => cases b <;> rfl
def noKS : Str → PV → En → Sto → Prop := fun _ _ _ _ => False
@[simp] theorem e_noErS (o : OS) (N : En → Sto → Prop) (T : PV → Sto → Prop) (R : Str → PV → En → Sto → Prop) : wpS (noErS o) N T R = wpS o N T noKS := by cases o <;> rfl
@[simp] theorem e_asgL (i j : Nat) (vs : List PV) (τ : En) (S : Sto) : asgL i j vs τ S = if vs.length ≤ 16777216 ∧ i < τ.length then .nx ((τ.set j (some (.loc S.length))).set i none) (S ++ [.lst vs]) else .bad := rfl
end PL
/-! PLP: letters, names. -/
namespace PL
open PySem PySem.Spec PyProof.Rows L2
theorem map_inj_of {α β : Type} {f : α → β} (hf : ∀ a b, f a = f b → a = b) : ∀ {xs ys : List α}, xs.map f = ys.map f → xs = ys
  | [], [], _ => rfl
  | [], _ :: _, h => by simp at h
  | _ :: _, [], h => by simp at h
  | x :: xs, y :: ys, h => by
    simp only [List.map_cons, List.cons.injEq] at h
    rw [hf _ _ h.1, map_inj_of hf h.2]
@[simp] theorem ofString_inj {a b : String} : Str.ofString a = Str.ofString b ↔ a = b := by
  constructor
  · intro h
    rw [Str.ofString_eq_toList, Str.ofString_eq_toList] at h
    have h1 : a.toList.map Char.toNat = b.toList.map Char.toNat := by
      have := congrArg (fun s : Str => s.cps.toList) h
      simpa using this
    have h2 : a.toList = b.toList := map_inj_of (fun x y e => Char.toNat_inj.mp e) h1
    exact String.toList_inj.mp h2
  · intro h; rw [h]
def ch (x : Str) : List Nat := x.cps.toList
theorem ch_len (x : Str) : (ch x).length = x.length := by simp [ch, Str.length]
theorem ch_app (a b : Str) : ch (a ++ b) = ch a ++ ch b := by
  show (a.cps ++ b.cps).toList = _
  simp [ch]
theorem ch_ext {a b : Str} (h : ch a = ch b) : a = b := by
  cases a; cases b; simp [ch] at h; simp [h]
@[simp] theorem ch_mk (l : List Nat) : ch ⟨l.toArray⟩ = l := by simp [ch]
theorem ch_cut (x : Str) (lo hi : Option Int) : ch (cutS x lo hi) = ((ch x).drop (HT.sIx x.length 0 lo)).take (HT.sIx x.length x.length hi - HT.sIx x.length 0 lo) := by
  simp [cutS, ch]
theorem ch_mul1 (c : Nat) (n : Int) : ch (Txt.mul ⟨#[c]⟩ n) = List.replicate n.toNat c := mul_one_list c n
theorem joinL_nil : ∀ ps : List (List Nat), TL.joinL [] ps = ps.flatten
  | [] => rfl
  | [p] => by simp [TL.joinL]
  | p :: q :: r => by simp [TL.joinL, joinL_nil (q :: r)]
theorem ch_join0 (ys : List Str) : ch (Txt.join ⟨#[]⟩ ys) = (ys.map ch).flatten := by
  have e := TL.tl_join ⟨#[]⟩ ys
  rw [← TL.join_eq] at e
  show TL.tl _ = _
  rw [e]
  exact joinL_nil _
def Lt (c : Nat) : Prop := 97 ≤ c ∧ c ≤ 122
instance (c : Nat) : Decidable (Lt c) := inferInstanceAs (Decidable (_ ∧ _))
def Lw (x : Str) : Prop := ∀ c ∈ ch x, Lt c
structure Nm (x : Str) : Prop where
  l : Lw x
  p : 1 ≤ x.length
  q : x.length ≤ 8
theorem Lw.plain {x : Str} (h : Lw x) (n : Nat) : Pl n (.str x) := by
  cases n <;>
  · simp only [Pl, ← Array.all_toList, List.all_eq_true, decide_eq_true_eq]
    intro c hc
    have := h c hc
    unfold Lt at this
    omega
theorem Lw.app {x y : Str} (h : Lw x) (k : Lw y) : Lw (x ++ y) := fun c hc => by
  rw [ch_app] at hc
  rcases List.mem_append.mp hc with q | q
  · exact h c q
  · exact k c q
theorem Lw.cut {x : Str} (h : Lw x) (lo hi : Option Int) : Lw (cutS x lo hi) := fun c hc => by
  rw [ch_cut] at hc
  exact h c (List.mem_of_mem_drop (List.mem_of_mem_take hc))
theorem Lw.one {c : Nat} (h : Lt c) : Lw ⟨#[c]⟩ := fun d hd => by
  have : d = c := by simpa [ch] using hd
  subst this; exact h
theorem Lw.nil : Lw ⟨#[]⟩ := fun d hd => by simp [ch] at hd
theorem abc_ch : ch (Str.ofString "abcdefghijklmnopqrstuvwxyz") = List.range' 97 26 := by decide +kernel
theorem abc_len : (Str.ofString "abcdefghijklmnopqrstuvwxyz").length = 26 := by rw [← ch_len, abc_ch]; rfl
theorem abc_mem {c : Nat} : c ∈ (Str.ofString "abcdefghijklmnopqrstuvwxyz").cps.toList ↔ Lt c := by
  show c ∈ ch _ ↔ _
  rw [abc_ch, List.mem_range']
  unfold Lt
  constructor
  · rintro ⟨i, h1, h2⟩; omega
  · intro h; exact ⟨c - 97, by omega, by omega⟩
theorem abc_at {i : Int} (h0 : 0 ≤ i) (h : i < 26) : ∃ c, atI (Str.ofString "abcdefghijklmnopqrstuvwxyz").cps.toList i = some c ∧ Lt c := by
  obtain ⟨c, h1, _, h2⟩ := atI_nat (xs := (Str.ofString "abcdefghijklmnopqrstuvwxyz").cps.toList) h0 (by
    have := abc_len
    rw [← ch_len] at this
    show i < ((ch _).length : Int)
    omega)
  exact ⟨c, h1, abc_mem.mp h2⟩
theorem empty_str : Str.ofString "" = ⟨#[]⟩ := by decide +kernel
theorem strsP_map : ∀ ys : List Str, strsP (ys.map PV.str) = some ys
  | [] => rfl
  | y :: ys => by simp [strsP, strsP_map ys]
theorem inItems_strs (x : Str) (ys : List Str) : inItems (.str x) (ys.map PV.str) = some (decide (x ∈ ys)) := by
  unfold inItems
  rw [if_pos (by simp [flatP])]
  simp only [inV, List.map_map]
  congr 1
  induction ys with
  | nil => simp
  | cons y ys ih =>
    simp only [List.map_cons, List.any_cons, Function.comp, flatW, eqV] at ih ⊢
    rw [ih]
    by_cases h : x = y
    · subst h; simp
    · have h' : (y == x) = false := by simpa using fun z => h z.symm
      simp [h, h']
theorem inB_strs {S : Sto} {l : Nat} {x : Str} {ys : List Str} (h : S[l]? = some (.lst (ys.map PV.str))) : inB (.str x) (.loc l) S = some (decide (x ∈ ys)) := by
  unfold inB
  simp only [h]
  rw [inItems_strs]
theorem inB_char {S : Sto} {c : Nat} : inB (.str ⟨#[c]⟩) (.str (Str.ofString "abcdefghijklmnopqrstuvwxyz")) S = some (decide (Lt c)) := by
  show some (decide (c ∈ (Str.ofString "abcdefghijklmnopqrstuvwxyz").cps.toList)) = _
  simp only [abc_mem]
/-- what has no room for all of a list leaves one out -/
theorem some_out {α : Type} [DecidableEq α] : ∀ {xs us : List α}, xs.Nodup → us.length < xs.length → ∃ x ∈ xs, x ∉ us
  | [], _, _, h => by simp at h
  | x :: xs, us, nd, h => by
    by_cases hx : x ∈ us
    · have nd' := List.nodup_cons.mp nd
      obtain ⟨y, hy, hn⟩ := some_out (us := us.erase x) nd'.2 (by
        rw [List.length_erase_of_mem hx]
        have := List.length_pos_of_mem hx
        simp at h; omega)
      refine ⟨y, List.mem_cons_of_mem _ hy, fun q => hn ((List.mem_erase_of_ne fun z => nd'.1 (by rw [← z]; exact hy)).mpr q)⟩
    · exact ⟨x, by simp, hx⟩
theorem cut_le (x : Str) (lo hi : Option Int) : (cutS x lo hi).length ≤ x.length := by
  rw [← ch_len, ch_cut, ← ch_len x]
  simp [List.length_take, List.length_drop]
  omega
theorem cut_8 (x : Str) : (cutS x none (some 8)).length ≤ 8 := by
  rw [← ch_len, ch_cut]
  have : HT.sIx x.length x.length (some ((8 : Nat) : Int)) = min 8 x.length := HT.sIx_nat _ _ 8
  have h : HT.sIx x.length x.length (some 8) ≤ 8 := by
    show HT.sIx x.length x.length (some ((8 : Nat) : Int)) ≤ 8
    rw [this]; omega
  simp only [List.length_take, List.length_drop]
  omega
theorem len_app (a b : Str) : (a ++ b).length = a.length + b.length := by
  rw [← ch_len, ch_app, List.length_append, ch_len, ch_len]
end PL
/-! PLR: rows as data. -/
namespace PL
open PySem PySem.Spec PyProof.Rows L2
inductive Vl where
  | num (i : Int) | copy (x : Str) | add (x y : Str) | read | clean (x : Str) | call (f : Str) (xs : List Str)
inductive Rw where
  | set (x : Str) (v : Vl) | iff (x : Str) (a b : List Rw) | send (x : Str) | give (x : Str)
abbrev Hd := Str × List Str
def stL (xs : List Str) : List PV := xs.map PV.str
def Vl.pv : Vl → PV
  | .num i => .tup [.str "num", .int i]
  | .copy x => .tup [.str "copy", .str x]
  | .add x y => .tup [.str "add", .str x, .str y]
  | .read => .tup [.str "read"]
  | .clean x => .tup [.str "clean", .str x]
  | .call f xs => .tup [.str "call", .str f, .tup (stL xs)]
mutual
def Rw.pv : Rw → PV
  | .set x v => .tup [.str "set", .str x, v.pv]
  | .iff x a b => .tup [.str "if", .str x, .tup (Rw.pvs a), .tup (Rw.pvs b)]
  | .send x => .tup [.str "send", .str x]
  | .give x => .tup [.str "give", .str x]
def Rw.pvs : List Rw → List PV
  | [] => []
  | r :: rs => r.pv :: Rw.pvs rs
end
theorem pvs_map : ∀ rs : List Rw, Rw.pvs rs = rs.map Rw.pv
  | [] => rfl
  | r :: rs => by simp [Rw.pvs, pvs_map rs]
def Vl.ok (ns : List Str) (hs : List Hd) : Vl → Prop
  | .num _ => True
  | .copy x => x ∈ ns
  | .add x y => x ∈ ns ∧ y ∈ ns
  | .read => True
  | .clean x => x ∈ ns
  | .call f xs => (∀ x ∈ xs, x ∈ ns) ∧ ∃ ps, (f, ps) ∈ hs ∧ xs.length = ps.length
mutual
def Rw.ok (ns : List Str) (hs : List Hd) : Rw → Prop
  | .set x v => x ∈ ns ∧ v.ok ns hs
  | .iff x a b => x ∈ ns ∧ Rw.oks ns hs a ∧ Rw.oks ns hs b
  | .send x => x ∈ ns
  | .give x => x ∈ ns
def Rw.oks (ns : List Str) (hs : List Hd) : List Rw → Prop
  | [] => True
  | r :: rs => r.ok ns hs ∧ Rw.oks ns hs rs
end
mutual
/-- a row and all within -/
def Rw.each : Rw → List Rw
  | .iff x a b => .iff x a b :: (Rw.eachs a ++ Rw.eachs b)
  | .set x v => [.set x v]
  | .send x => [.send x]
  | .give x => [.give x]
def Rw.eachs : List Rw → List Rw
  | [] => []
  | r :: rs => r.each ++ Rw.eachs rs
end
mutual
def Rw.dep : Rw → Nat
  | .iff _ a b => 1 + max (Rw.deps a) (Rw.deps b)
  | _ => 1
def Rw.deps : List Rw → Nat
  | [] => 0
  | r :: rs => max r.dep (Rw.deps rs)
end
theorem oks_app {ns : List Str} {hs : List Hd} : ∀ {a b : List Rw}, Rw.oks ns hs (a ++ b) ↔ Rw.oks ns hs a ∧ Rw.oks ns hs b
  | [], b => by simp [Rw.oks]
  | r :: a, b => by simp [Rw.oks, oks_app (a := a), and_assoc]
theorem eachs_app : ∀ {a b : List Rw}, Rw.eachs (a ++ b) = Rw.eachs a ++ Rw.eachs b
  | [], b => by simp [Rw.eachs]
  | r :: a, b => by simp [Rw.eachs, eachs_app (a := a)]
theorem deps_app : ∀ {a b : List Rw}, Rw.deps (a ++ b) = max (Rw.deps a) (Rw.deps b)
  | [], b => by simp [Rw.deps]
  | r :: a, b => by simp [Rw.deps, deps_app (a := a)]; try omega
def Hd.pv (h : Hd) : PV := .tup [.str h.1, .tup (stL h.2)]
theorem hd_inj {a b : Hd} (h : a.pv = b.pv) : a = b := by
  obtain ⟨a1, a2⟩ := a
  obtain ⟨b1, b2⟩ := b
  simp only [Hd.pv, PV.tup.injEq, List.cons.injEq, PV.str.injEq, and_true] at h
  rw [h.1, strs_inj h.2]
theorem hds_inj : ∀ {a b : List Hd}, a.map Hd.pv = b.map Hd.pv → a = b
  | [], [], _ => rfl
  | [], _ :: _, h => by simp at h
  | _ :: _, [], h => by simp at h
  | x :: a, y :: b, h => by
    simp only [List.map_cons, List.cons.injEq] at h
    rw [hd_inj h.1, hds_inj h.2]
mutual
theorem Rw.each_pos : ∀ r : Rw, 1 ≤ r.each.length
  | .iff _ _ _ => by simp [Rw.each]
  | .set _ _ => by simp [Rw.each]
  | .send _ => by simp [Rw.each]
  | .give _ => by simp [Rw.each]
end
theorem len_eachs : ∀ rs : List Rw, rs.length ≤ (Rw.eachs rs).length
  | [] => by simp
  | r :: rs => by
    have := Rw.each_pos r
    have := len_eachs rs
    simp [Rw.eachs]; omega
def Vl.asked : Vl → List Str
  | .num _ => []
  | .copy x => [x]
  | .add x y => [x, y]
  | .read => []
  | .clean x => [x]
  | .call _ xs => xs
def Rw.ins : Rw → List Str
  | .set x v => v.asked ++ [x]
  | .iff x _ _ => [x, x]
  | .send x => [x, x]
  | .give x => [x, x]
def Rw.called : Rw → PV
  | .set _ (.call f xs) => .tup [.str f, .tup (stL xs)]
  | _ => .non
theorem ins_ok {ns : List Str} {hs : List Hd} {r : Rw} (h : r.ok ns hs) : ∀ x ∈ r.ins, x ∈ ns := by
  cases r with
  | set x v =>
    obtain ⟨h1, h2⟩ := h
    intro y hy
    simp only [Rw.ins, List.mem_append, List.mem_singleton] at hy
    rcases hy with hy | rfl
    · cases v with
      | num _ => simp [Vl.asked] at hy
      | read => simp [Vl.asked] at hy
      | copy z => simp [Vl.asked] at hy; subst hy; exact h2
      | clean z => simp [Vl.asked] at hy; subst hy; exact h2
      | add z w => simp [Vl.asked] at hy; rcases hy with rfl | rfl; exact h2.1; exact h2.2
      | call f xs => exact h2.1 y hy
    · exact h1
  | iff x a b => intro y hy; simp [Rw.ins] at hy; subst hy; exact h.1
  | send x => intro y hy; simp [Rw.ins] at hy; subst hy; exact h
  | give x => intro y hy; simp [Rw.ins] at hy; subst hy; exact h
mutual
theorem each_ok {ns : List Str} {hs : List Hd} : ∀ (r : Rw), r.ok ns hs → ∀ q ∈ r.each, q.ok ns hs
  | .set x v, h, q, hq => by simp [Rw.each] at hq; subst hq; exact h
  | .send x, h, q, hq => by simp [Rw.each] at hq; subst hq; exact h
  | .give x, h, q, hq => by simp [Rw.each] at hq; subst hq; exact h
  | .iff x a b, h, q, hq => by
    simp only [Rw.each, List.mem_cons, List.mem_append] at hq
    rcases hq with rfl | hq | hq
    · exact h
    · exact eachs_ok a h.2.1 q hq
    · exact eachs_ok b h.2.2 q hq
theorem eachs_ok {ns : List Str} {hs : List Hd} : ∀ (rs : List Rw), Rw.oks ns hs rs → ∀ q ∈ Rw.eachs rs, q.ok ns hs
  | [], _, q, hq => by simp [Rw.eachs] at hq
  | r :: rs, h, q, hq => by
    simp only [Rw.eachs, List.mem_append] at hq
    rcases hq with hq | hq
    · exact each_ok r h.1 q hq
    · exact eachs_ok rs h.2 q hq
end
abbrev Cl := Str × List Str
def Cl.pv (c : Cl) : PV := .tup [.str c.1, .tup (stL c.2)]
def Rw.callL : Rw → List Cl
  | .set _ (.call f xs) => [(f, xs)]
  | _ => []
theorem callL_some {r : Rw} : (r.called = .non ∧ r.callL = []) ∨ ∃ c, r.called = Cl.pv c ∧ r.callL = [c] := by
  cases r with
  | set x v => cases v <;> first | exact .inl ⟨rfl, rfl⟩ | exact .inr ⟨_, rfl, rfl⟩
  | _ => exact .inl ⟨rfl, rfl⟩
theorem callL_ok {ns : List Str} {hs : List Hd} {r : Rw} (h : r.ok ns hs) : ∀ c ∈ r.callL, ∃ ps, (c.1, ps) ∈ hs ∧ c.2.length = ps.length := by
  intro c hc
  cases r with
  | set x v =>
    cases v with
    | call f xs => simp [Rw.callL] at hc; subst hc; exact h.2.2
    | _ => simp [Rw.callL] at hc
  | _ => simp [Rw.callL] at hc
theorem ins_len {ns : List Str} {hs : List Hd} {r : Rw} (h : r.ok ns hs) (hp : ∀ h ∈ hs, h.2.length ≤ 4) : r.ins.length ≤ 5 := by
  cases r with
  | set x v =>
    cases v with
    | call f xs =>
      obtain ⟨_, ps, h1, h2⟩ := h.2
      have : ps.length ≤ 4 := hp _ h1
      simp [Rw.ins, Vl.asked]; omega
    | _ => simp [Rw.ins, Vl.asked]
  | _ => simp [Rw.ins]
def Hd.kv (h : Hd) : Key × PV := (.inr h.1, .tup (stL h.2))
theorem valP_hds : ∀ {hs : List Hd} {f : Str} {ps : List Str}, (hs.map (·.1)).Nodup → (f, ps) ∈ hs → valP (hs.map Hd.kv) (.inr f) = some (.tup (stL ps))
  | [], _, _, _, h => by simp at h
  | x :: hs, f, ps, nd, h => by
    simp only [List.map_cons, List.nodup_cons] at nd
    rcases List.mem_cons.mp h with h | h
    · subst h
      simp [valP, Hd.kv]
    · have hne : x.1 ≠ f := fun z => nd.1 (by rw [z]; exact List.mem_map.mpr ⟨(f, ps), h, rfl⟩)
      have := valP_hds nd.2 h
      simp only [valP, List.map_cons, List.find?_cons] at this ⊢
      have hk : decide ((Hd.kv x).1 = .inr f) = false := by simpa [Hd.kv] using hne
      rw [hk]
      exact this
theorem valP_none : ∀ {hs : List Hd} {f : Str}, f ∉ hs.map (·.1) → valP (hs.map Hd.kv) (.inr f) = none
  | [], _, _ => rfl
  | x :: hs, f, h => by
    simp only [List.map_cons, List.mem_cons, not_or] at h
    have := valP_none (hs := hs) h.2
    simp only [valP, List.map_cons, List.find?_cons] at this ⊢
    have hk : decide ((Hd.kv x).1 = .inr f) = false := by simpa [Hd.kv] using fun z => h.1 z.symm
    rw [hk]
    exact this
theorem putP_new {hs : List Hd} {f : Str} {v : PV} (h : f ∉ hs.map (·.1)) : putP (hs.map Hd.kv) (.inr f) v = hs.map Hd.kv ++ [(.inr f, v)] := by
  unfold putP
  rw [if_neg]
  intro z
  simp only [List.any_map, List.any_eq_true, Function.comp, Hd.kv, decide_eq_true_eq] at z
  obtain ⟨x, hx, e⟩ := z
  exact h (List.mem_map.mpr ⟨x, hx, Sum.inr.inj (of_decide_eq_true e)⟩)
theorem onceK_nd : ∀ {ks acc : List Key}, (acc ++ ks).Nodup → onceK acc ks = acc ++ ks
  | [], acc, _ => by simp [onceK]
  | k :: ks, acc, h => by
    have hk : acc.any (fun j => decide (j = k)) = false := by
      rw [List.any_eq_false]
      intro j hj
      simp only [decide_eq_true_eq]
      intro z
      exact (List.nodup_append.mp h).2.2 j hj k (by simp) z
    unfold onceK
    rw [hk]
    have := onceK_nd (ks := ks) (acc := acc ++ [k]) (by simpa using h)
    simpa using this
theorem keysP_strs : ∀ xs : List Str, keysP (stL xs) = some (xs.map Sum.inr)
  | [] => rfl
  | x :: xs => by
    have := keysP_strs xs
    simp [stL, keysP, keyP] at this ⊢
    rw [this]
abbrev Df := Str × List Str × List Rw
def Df.hd (d : Df) : Hd := (d.1, d.2.1)
def Df.pv (d : Df) : PV := .tup [.str d.1, .tup (stL d.2.1), .tup (Rw.pvs d.2.2)]
/-- heads of a program -/
structure Hds (hs : List Hd) : Prop where
  nd : (hs.map (·.1)).Nodup
  nm : ∀ h ∈ hs, Nm h.1
  pd : ∀ h ∈ hs, h.2.Nodup
  pn : ∀ h ∈ hs, ∀ x ∈ h.2, Nm x
  pl : ∀ h ∈ hs, h.2.length ≤ 4
  main : ((Str.ofString "main", []) : Hd) ∈ hs
  len : hs.length ≤ 6
/-- a program's definitions -/
structure Prg (ds : List Df) : Prop where
  hd : Hds (ds.map Df.hd)
  ok : ∀ d ∈ ds, ∃ ns : List Str, (∀ x ∈ ns, Nm x) ∧ Rw.oks ns (ds.map Df.hd) d.2.2
  dep : ∀ d ∈ ds, Rw.deps d.2.2 ≤ 4
  cnt : ∀ d ∈ ds, (Rw.eachs d.2.2).length ≤ 60
@[simp] theorem cut_1 (a : PV) (xs : List PV) : cutP (a :: xs) (some 1) none = xs := by
  unfold cutP
  have : HT.sIx (a :: xs).length 0 (some 1) = 1 := by
    show HT.sIx (a :: xs).length 0 (some ((1 : Nat) : Int)) = 1
    rw [HT.sIx_nat]
    simp only [List.length_cons]; omega
  rw [this, HT.sIx_none]
  simp
theorem cut_take {xs : List PV} (k : Nat) : cutP xs none (some (k : Int)) = xs.take k := by
  unfold cutP
  rw [HT.sIx_nat, HT.sIx_none]
  simp
end PL
/-! PLW: comprehensions over data that keep what was there; heads; soundness. -/
namespace PL
open PySem PySem.Spec PyProof.Rows L2
theorem Keep.step {M M' : List Nat} {S S1 S2 : Sto} (a : Keep M S S1) (b : Keep M' S1 S2) (h : ∀ x ∈ M', x < S.length → x ∈ M) : Keep M S S2 :=
  ⟨Nat.le_trans a.1 b.1, fun l hl n => (b.2 l (Nat.lt_of_lt_of_le hl a.1) fun z => n (h l z hl)).trans (a.2 l hl n)⟩
theorem dec_wp {c : Prop} [Decidable c] {P : PV → Sto → Prop} {S : Sto} (h1 : c → P (.bl true) S) (h0 : ¬ c → P (.bl false) S) : P (.bl (decide c)) S := by
  by_cases h : c
  · simpa [h] using h1 h
  · simpa [h] using h0 h
theorem accF_wp {α : Type} {P : List PV → Sto → Prop} {R : Str → PV → Sto → Prop} {t : Wk} {g : GM} {st : List PV → En → Sto → Out (List PV)} (i : α → PV) (f : α → List PV) {xs : List α} {acc : List PV} {τ : En} {S : Sto} (hok : ∀ S', Keep [] S S' → t.ok S') (hl : acc.length + (xs.flatMap f).length ≤ 16777216)
    (hs : ∀ x ∈ xs, ∀ (acc : List PV) (S' : Sto) (J : List PV → Sto → Prop), acc.length + (f x).length ≤ 16777216 → Keep [] S S' → (∀ S'', Keep [] S S'' → J (acc ++ f x) S'') → ∃ τ1, g (i x) τ = some τ1 ∧ wp (st acc τ1 S') J R)
    (he : ∀ S', Keep [] S S' → P (acc ++ xs.flatMap f) S') : wp (accL t g st acc (xs.map i) τ S) P R := by
  have key : ∀ (ys : List α) (acc : List PV) (S' : Sto), (∀ x ∈ ys, x ∈ xs) → acc.length + (ys.flatMap f).length ≤ 16777216 → Keep [] S S' → (∀ S'', Keep [] S S'' → P (acc ++ ys.flatMap f) S'') → wp (accL t g st acc (ys.map i) τ S') P R := by
    intro ys
    induction ys with
    | nil => intro acc S' _ _ k he; rw [List.map_nil, accL_nil, if_pos (hok _ k)]; simpa using he S' k
    | cons x ys ih =>
      intro acc S' hm hl k he
      simp only [List.flatMap_cons, List.length_append] at hl
      obtain ⟨τ1, h1, h2⟩ := hs x (hm x (by simp)) acc S' (fun a S => wp (accL t g st a (ys.map i) τ S) P R) (by omega) k (fun S'' k'' => ih (acc ++ f x) S'' (fun y hy => hm y (by simp [hy])) (by rw [List.length_append]; omega) k'' (fun S3 k3 => by simpa [List.flatMap_cons] using he S3 k3))
      simp only [List.map_cons, accL, if_pos (hok _ k), h1]
      rw [wp_bnd]
      exact h2
  exact key xs acc S (fun _ h => h) hl .refl he
theorem flatMap_one {α β : Type} (f : α → β) : ∀ xs : List α, xs.flatMap (fun x => [f x]) = xs.map f
  | [] => rfl
  | x :: xs => by rw [List.flatMap_cons, flatMap_one f xs]; rfl
theorem accK_wp {α : Type} {P : List PV → Sto → Prop} {R : Str → PV → Sto → Prop} {t : Wk} {g : GM} {st : List PV → En → Sto → Out (List PV)} (i : α → PV) (f : α → PV) {xs : List α} {acc : List PV} {τ : En} {S : Sto} (hok : ∀ S', Keep [] S S' → t.ok S') (hl : acc.length + xs.length ≤ 16777216)
    (hs : ∀ x ∈ xs, ∀ (acc : List PV) (S' : Sto) (J : List PV → Sto → Prop), acc.length < 16777216 → Keep [] S S' → (∀ S'', Keep [] S S'' → J (acc ++ [f x]) S'') → ∃ τ1, g (i x) τ = some τ1 ∧ wp (st acc τ1 S') J R)
    (he : ∀ S', Keep [] S S' → P (acc ++ xs.map f) S') : wp (accL t g st acc (xs.map i) τ S) P R := by
  have e : xs.flatMap (fun x => [f x]) = xs.map f := flatMap_one f xs
  refine accF_wp i (fun x => [f x]) hok (by rw [e]; simpa using hl) (fun x hx acc S' J h k => hs x hx acc S' J (by simp at h; omega) k) (fun S' k => by rw [e]; exact he S' k)
theorem len_flatMap_le {α β : Type} {f : α → List β} {c : Nat} : ∀ {xs : List α}, (∀ x ∈ xs, (f x).length ≤ c) → (xs.flatMap f).length ≤ xs.length * c
  | [], _ => by simp
  | x :: xs, h => by
    have h1 := len_flatMap_le (xs := xs) (f := f) (c := c) fun y hy => h y (by simp [hy])
    have h2 := h x (by simp)
    rw [List.flatMap_cons, List.length_append, List.length_cons, Nat.add_mul]
    omega
theorem boolsP_map {α : Type} (f : α → Bool) : ∀ xs : List α, boolsP (xs.map fun x => PV.bl (f x)) = some (xs.map f)
  | [] => rfl
  | x :: xs => by simp [boolsP, boolsP_map f xs]
/-! heads as others -/
def firstH (hs : List Hd) (f : Str) : Option (List Str) := (hs.find? fun h => decide (h.1 = f)).map (·.2)
theorem firstH_app (a b : List Hd) (f : Str) : firstH (a ++ b) f = (firstH a f).or (firstH b f) := by
  unfold firstH
  rw [List.find?_append]
  cases a.find? fun h => decide (h.1 = f) <;> simp
theorem firstH_mem {hs : List Hd} {f : Str} {ps : List Str} (nd : (hs.map (·.1)).Nodup) (h : (f, ps) ∈ hs) : firstH hs f = some ps := by
  induction hs with
  | nil => simp at h
  | cons x hs ih =>
    simp only [List.map_cons, List.nodup_cons] at nd
    rcases List.mem_cons.mp h with h | h
    · subst h; simp [firstH]
    · have hne : x.1 ≠ f := fun z => nd.1 (by rw [z]; exact List.mem_map.mpr ⟨(f, ps), h, rfl⟩)
      have := ih nd.2 h
      simp only [firstH, List.find?_cons, hne, decide_false] at this ⊢
      exact this
structure Oth (od : Nat) (hs : List Hd) (S : Sto) : Prop where
  ex : ∃ kvs : List (Key × PV), S[od]? = some (.dct kvs) ∧ kvs.length ≤ hs.length ∧ ∀ f, valP kvs (.inr f) = (firstH hs f).map fun ps => PV.tup (stL ps)
theorem Oth.keep {od : Nat} {hs : List Hd} {S S' : Sto} {M : List Nat} (o : Oth od hs S) (k : Keep M S S') (h : od ∉ M) : Oth od hs S' := by
  obtain ⟨kvs, h1, h2⟩ := o.ex
  exact ⟨kvs, k.get h1 h, h2⟩
theorem Oth.lt {od : Nat} {hs : List Hd} {S : Sto} (o : Oth od hs S) : od < S.length := by
  obtain ⟨kvs, h1, h2⟩ := o.ex
  exact lt_of_get h1
theorem valP_app (a b : List (Key × PV)) (k : Key) : valP (a ++ b) k = (valP a k).or (valP b k) := by
  unfold valP
  rw [List.find?_append]
  cases a.find? fun kv => decide (kv.1 = k) <;> simp
theorem putP_none {kvs : List (Key × PV)} {k : Key} {v : PV} (h : valP kvs k = none) : putP kvs k v = kvs ++ [(k, v)] := by
  unfold putP
  rw [if_neg]
  intro z
  simp only [List.any_eq_true, decide_eq_true_eq] at z
  obtain ⟨x, hx, e⟩ := z
  simp only [valP, Option.map_eq_none_iff, List.find?_eq_none] at h
  exact absurd e (by simpa using h x hx)
/-! names, soundness -/
def nmB (x : Str) : Bool := decide (1 ≤ x.length) && decide (x.length ≤ 8) && (ch x).all fun c => decide (Lt c)
theorem nmB_iff {x : Str} : nmB x = true ↔ Nm x := by
  unfold nmB
  simp only [Bool.and_eq_true, decide_eq_true_eq, List.all_eq_true]
  exact ⟨fun h => ⟨h.2, h.1.1, h.1.2⟩, fun h => ⟨⟨h.p, h.q⟩, h.l⟩⟩
def callB (hs : List Hd) (c : Cl) : Bool := match firstH hs c.1 with | some ps => decide (ps.length = c.2.length) | none => false
def namesL (d : Df) : List Str := (Rw.eachs d.2.2).flatMap Rw.ins ++ d.2.1
def callsL (d : Df) : List Cl := (Rw.eachs d.2.2).flatMap Rw.callL
def soundB (hs : List Hd) (d : Df) : Bool := (namesL d).all nmB && decide d.2.1.Nodup && (callsL d).all (callB hs)
theorem Prg.sound {ds : List Df} (p : Prg ds) : ∀ d ∈ ds, nmB d.1 = true ∧ soundB (ds.map Df.hd) d = true := by
  intro d hd
  have hh : d.hd ∈ ds.map Df.hd := List.mem_map.mpr ⟨d, hd, rfl⟩
  obtain ⟨ns, h1, h2⟩ := p.ok d hd
  refine ⟨nmB_iff.mpr (p.hd.nm _ hh), ?_⟩
  unfold soundB
  simp only [Bool.and_eq_true, List.all_eq_true, decide_eq_true_eq]
  refine ⟨⟨?_, p.hd.pd _ hh⟩, ?_⟩
  · intro x hx
    rw [nmB_iff]
    rcases List.mem_append.mp hx with hx | hx
    · obtain ⟨r, hr, hx⟩ := List.mem_flatMap.mp hx
      exact h1 x (ins_ok (eachs_ok _ h2 r hr) x hx)
    · exact p.hd.pn _ hh x hx
  · intro c hc
    obtain ⟨r, hr, hc⟩ := List.mem_flatMap.mp hc
    obtain ⟨ps, h3, h4⟩ := callL_ok (eachs_ok _ h2 r hr) c hc
    unfold callB
    rw [firstH_mem p.hd.nd h3]
    simp [h4]
theorem inr_nd : ∀ xs : List Str, ((xs.map Sum.inr : List Key)).Nodup ↔ xs.Nodup
  | [] => by simp
  | x :: xs => by simp [List.nodup_cons, inr_nd xs]
theorem len_set_lt {xs : List Str} : (onceK [] (xs.map Sum.inr)).length < xs.length ↔ ¬ xs.Nodup := by
  have inj := inr_nd xs
  have key : ∀ (ks acc : List Key), (onceK acc ks).length ≤ acc.length + ks.length ∧ (acc.Nodup → (onceK acc ks).length = acc.length + ks.length → (acc ++ ks).Nodup) := by
    intro ks
    induction ks with
    | nil => intro acc; simp [onceK]
    | cons k ks ih =>
      intro acc
      unfold onceK
      by_cases h : (acc.any fun j => decide (j = k)) = true
      · rw [if_pos h]
        have := (ih acc).1
        refine ⟨by simp; omega, fun _ z => ?_⟩
        simp at z; omega
      · rw [if_neg h]
        have h1 := ih (acc ++ [k])
        simp only [List.length_append, List.length_cons, List.length_nil] at h1
        refine ⟨by simp; omega, fun nd z => ?_⟩
        have : (acc ++ [k]).Nodup := by
          refine List.nodup_append.mpr ⟨nd, by simp, ?_⟩
          intro x hx y hy e
          simp at hy
          subst hy
          subst e
          exact h (List.any_eq_true.mpr ⟨x, hx, by simp⟩)
        have := h1.2 this (by simp at z; omega)
        simpa using this
  have h1 := key (xs.map Sum.inr) []
  simp only [List.length_nil, List.length_map, List.nil_append, Nat.zero_add] at h1
  constructor
  · intro h nd
    have : onceK [] (xs.map Sum.inr) = [] ++ xs.map Sum.inr := onceK_nd (by simpa using inj.mpr nd)
    rw [this] at h
    simp at h
  · intro h
    rcases Nat.lt_or_ge (onceK [] (xs.map Sum.inr : List Key)).length xs.length with q | q
    · exact q
    · exact absurd (inj.mp (h1.2 (by simp) (by omega))) h
end PL
/-! PLX: loops over ranges, what values are with their lists read out. -/
namespace PL
open PySem PySem.Spec PyProof.Rows L2
theorem rngI_0 (n : Nat) : rngI 0 (n : Int) = (List.range n).map fun (i : Nat) => PV.int (i : Int) := by
  unfold rngI
  simp
theorem range_split {n i : Nat} {dn rs : List Nat} (h : List.range n = dn ++ i :: rs) : i = dn.length ∧ i < n := by
  have h1 : (List.range n)[dn.length]? = some i := by rw [h]; simp
  have hl : dn.length < n := by
    have := congrArg List.length h
    simp at this; omega
  rw [List.getElem?_range hl] at h1
  cases h1
  exact ⟨rfl, hl⟩
theorem forR_wp {N : En → Sto → Prop} {T : PV → Sto → Prop} {R : Str → PV → En → Sto → Prop} {t : Wk} {g : GM} {b : SM} {n : Nat} (Inv : Nat → En → Sto → Prop) {τ : En} {S : Sto} (h0 : Inv 0 τ S)
    (hs : ∀ i τ S (J : En → Sto → Prop), i < n → Inv i τ S → (∀ τ' S', Inv (i + 1) τ' S' → J τ' S') → t.ok S ∧ ∃ τ1, g (.int (i : Int)) τ = some τ1 ∧ wpS (b τ1 S) J T R)
    (he : ∀ τ S, Inv n τ S → t.ok S ∧ N τ S) : wpS (forL t g b (rngI 0 (n : Int)) τ S) N T R := by
  rw [rngI_0]
  refine forM_wp (fun (i : Nat) => PV.int (i : Int)) (fun dn τ S => Inv dn.length τ S) h0 ?_ ?_
  · intro dn x rs τ S J e h hJ
    obtain ⟨rfl, hl⟩ := range_split e
    exact hs _ τ S J hl h fun τ' S' k => hJ τ' S' (by simpa using k)
  · intro τ S h
    exact he τ S (by simpa using h)
/-! lists read out -/
mutual
def Sn (S : Sto) : PV → PV → Prop
  | .non, p => p = .non
  | .bl b, p => p = .bl b
  | .int i, p => p = .int i
  | .str x, p => p = .str x
  | .tup ds, p => ∃ ps, p = .tup ps ∧ SnL S ds ps
  | .fls ds, p => ∃ l ps, p = .loc l ∧ S[l]? = some (.lst ps) ∧ SnL S ds ps
  | .loc _, _ => False
def SnL (S : Sto) : List PV → List PV → Prop
  | [], ps => ps = []
  | d :: ds, ps => ∃ q qs, ps = q :: qs ∧ Sn S d q ∧ SnL S ds qs
end
mutual
/-- depth, width -/
def AD : Nat → PV → Prop
  | _, .non => True
  | _, .bl _ => True
  | _, .int _ => True
  | _, .str _ => True
  | 0, _ => False
  | n + 1, .tup xs => xs.length ≤ 16777216 ∧ ADL n xs
  | n + 1, .fls xs => xs.length ≤ 16777216 ∧ ADL n xs
  | _, _ => False
def ADL : Nat → List PV → Prop
  | _, [] => True
  | n, x :: xs => AD n x ∧ ADL n xs
end
theorem ADL_iff {n : Nat} : ∀ {xs : List PV}, ADL n xs ↔ ∀ x ∈ xs, AD n x
  | [] => by simp [ADL]
  | x :: xs => by simp [ADL, ADL_iff (xs := xs)]
theorem SnL.length {S : Sto} : ∀ {ds ps : List PV}, SnL S ds ps → ps.length = ds.length
  | [], ps, h => by have h : ps = [] := h; subst h; rfl
  | d :: ds, ps, h => by
    obtain ⟨q, qs, rfl, _, h2⟩ := h
    simp [SnL.length h2]
theorem SnL.get {S : Sto} : ∀ {ds ps : List PV} {i : Nat} {p : PV}, SnL S ds ps → ps[i]? = some p → ∃ d, ds[i]? = some d ∧ Sn S d p
  | [], ps, i, p, h, e => by have h : ps = [] := h; subst h; simp at e
  | d :: ds, ps, 0, p, h, e => by
    obtain ⟨q, qs, rfl, h1, h2⟩ := h
    simp at e; subst e
    exact ⟨d, rfl, h1⟩
  | d :: ds, ps, i + 1, p, h, e => by
    obtain ⟨q, qs, rfl, h1, h2⟩ := h
    obtain ⟨d', e1, e2⟩ := SnL.get (i := i) h2 (by simpa using e)
    exact ⟨d', by simpa using e1, e2⟩
mutual
theorem Sn.keep {S S' : Sto} (k : Keep [] S S') : ∀ (d p : PV), Sn S d p → Sn S' d p
  | .non, _, h => h
  | .bl _, _, h => h
  | .int _, _, h => h
  | .str _, _, h => h
  | .tup ds, p, h => by
    obtain ⟨ps, h1, h2⟩ := h
    exact ⟨ps, h1, SnL.keep k ds ps h2⟩
  | .fls ds, p, h => by
    obtain ⟨l, ps, h1, h2, h3⟩ := h
    exact ⟨l, ps, h1, k.get h2 (by simp), SnL.keep k ds ps h3⟩
  | .loc _, _, h => h
theorem SnL.keep {S S' : Sto} (k : Keep [] S S') : ∀ (ds ps : List PV), SnL S ds ps → SnL S' ds ps
  | [], _, h => h
  | d :: ds, ps, h => by
    obtain ⟨q, qs, h1, h2, h3⟩ := h
    exact ⟨q, qs, h1, Sn.keep k d q h2, SnL.keep k ds qs h3⟩
end
mutual
/-- plain values are what they are -/
theorem Pl.sn {S : Sto} : ∀ (n : Nat) (p : PV), Pl n p → Sn S p p
  | _, .non, _ => rfl
  | _, .int _, _ => rfl
  | _, .str _, _ => rfl
  | 0, .tup _, h => by simp [Pl] at h
  | n + 1, .tup xs, h => ⟨xs, rfl, PlL.sn n xs (by simpa [Pl] using h)⟩
  | n, .bl _, h => by cases n <;> simp [Pl] at h
  | n, .fls _, h => by cases n <;> simp [Pl] at h
  | n, .loc _, h => by cases n <;> simp [Pl] at h
theorem PlL.sn {S : Sto} : ∀ (n : Nat) (xs : List PV), PlL n xs → SnL S xs xs
  | _, [], _ => rfl
  | n, x :: xs, h => by
    have h' : Pl n x ∧ PlL n xs := by simpa [PlL] using h
    exact ⟨x, xs, rfl, Pl.sn n x h'.1, PlL.sn n xs h'.2⟩
end
theorem atI_get {β : Type} {xs : List β} {i : Nat} (h : i < xs.length) : atI xs (i : Int) = xs[i]? := by
  unfold atI ixN
  simp [show ((i : Int) < xs.length) by omega]
@[simp] theorem isi_bool_non {S : Sto} : isiP "bool" .non S = some false := by rfl
@[simp] theorem isi_int_non {S : Sto} : isiP "int" .non S = some false := by rfl
@[simp] theorem isi_str_non {S : Sto} : isiP "str" .non S = some false := by rfl
@[simp] theorem isi_list_non {S : Sto} : isiP "list" .non S = some false := by rfl
@[simp] theorem isi_tuple_non {S : Sto} : isiP "tuple" .non S = some false := by rfl
theorem dict_wp {P : PV → Sto → Prop} {R : Str → PV → Sto → Prop} {τ : En} {S : Sto} (h : ∀ n S', S'[n]? = some (.dct []) → Keep [] S S' → S.length ≤ n → P (.loc n) S') : wp (dictM τ S) P R := by
  rw [e_dictM]; exact alloc_wp h
theorem Oth.put {od : Nat} {hs : List Hd} {S : Sto} {f : Str} {ps : List Str} (o : Oth od hs S) (hl : hs.length < 1000) :
    ∃ kvs : List (Key × PV), S[od]? = some (.dct kvs) ∧ kvs.length < 16777216 ∧ (∀ v, valP kvs (.inr f) = some v → Oth od (hs ++ [(f, ps)]) S) ∧ (valP kvs (.inr f) = none → Oth od (hs ++ [(f, ps)]) (S.set od (.dct (putP kvs (.inr f) (.tup (stL ps)))))) := by
  obtain ⟨kvs, h1, h2, h3⟩ := o.ex
  refine ⟨kvs, h1, by omega, fun v hv => ⟨kvs, h1, by simp; omega, fun g => ?_⟩, fun hv => ⟨_, set_get h1, by rw [putP_none hv]; simp; omega, fun g => ?_⟩⟩
  · rw [firstH_app, h3 g]
    by_cases hg : g = f
    · subst hg
      rw [h3 g] at hv
      cases q : firstH hs g with
      | none => rw [q] at hv; simp at hv
      | some ps => simp
    · have : firstH [(f, ps)] g = none := by simp [firstH, Ne.symm hg]
      rw [this]; simp
  · rw [putP_none hv, valP_app, firstH_app, h3 g]
    by_cases hg : g = f
    · subst hg
      rw [h3 g] at hv
      cases q : firstH hs g with
      | none => simp [valP, firstH]
      | some ps => rw [q] at hv; simp at hv
    · have h1 : firstH [(f, ps)] g = none := by simp [firstH, Ne.symm hg]
      have h2 : valP [((.inr f : Key), PV.tup (stL ps))] (.inr g) = none := by simp [valP, Ne.symm hg]
      rw [h1, h2]; simp
end PL
/-! PLY: programs as objects; rows are plain. -/
namespace PL
open PySem PySem.Spec PyProof.Rows L2
@[simp] theorem ofS_beq (a b : String) : (Str.ofString a == Str.ofString b) = (a == b) := by
  by_cases h : a = b
  · simp [h]
  · have h1 : Str.ofString a ≠ Str.ofString b := fun z => h (ofString_inj.mp z)
    have e1 : (Str.ofString a == Str.ofString b) = false := by simpa using h1
    have e2 : (a == b) = false := by simpa using h
    rw [e1, e2]
/-- a Program at l, of these definitions -/
def PrgAt (l : Nat) (ds : List Df) (S : Sto) : Prop := ∃ n, S[l]? = some (.ins "Program" [(Str.ofString "definitions_kept", .loc n)]) ∧ S[n]? = some (.lst (ds.map Df.pv))
theorem PrgAt.keep {l : Nat} {ds : List Df} {S S' : Sto} (p : PrgAt l ds S) (k : Keep [] S S') : PrgAt l ds S' := by
  obtain ⟨n, h1, h2⟩ := p
  exact ⟨n, k.get h1 (by simp), k.get h2 (by simp)⟩
theorem Lw.ok {x : Str} (h : Lw x) : x.cps.all (· < 0x110000) = true := by
  have := h.plain 0
  simpa [Pl] using this
/-- names whose letters are letters of some kind -/
def Fair (x : Str) : Prop := x.cps.all (· < 0x110000) = true
theorem Fair.pl {x : Str} (h : Fair x) (n : Nat) : Pl n (.str x) := by cases n <;> exact h
theorem Nm.fair {x : Str} (h : Nm x) : Fair x := h.l.ok
theorem fairL {n : Nat} {xs : List Str} (h : ∀ x ∈ xs, Fair x) : PlL n (stL xs) := PlL_iff.mpr fun p hp => by
  obtain ⟨x, hx, rfl⟩ := List.mem_map.mp hp
  exact (h x hx).pl n
theorem ofS_fair (s : String) (h : (Str.ofString s).cps.all (· < 0x110000) = true := by decide +kernel) : Fair (Str.ofString s) := h
def Vl.fair : Vl → Prop
  | .num _ => True
  | .copy x => Fair x
  | .add x y => Fair x ∧ Fair y
  | .read => True
  | .clean x => Fair x
  | .call f xs => Fair f ∧ ∀ x ∈ xs, Fair x
mutual
def Rw.fair : Rw → Prop
  | .set x v => Fair x ∧ v.fair
  | .iff x a b => Fair x ∧ Rw.fairs a ∧ Rw.fairs b
  | .send x => Fair x
  | .give x => Fair x
def Rw.fairs : List Rw → Prop
  | [] => True
  | r :: rs => r.fair ∧ Rw.fairs rs
end
theorem fairs_iff : ∀ {rs : List Rw}, Rw.fairs rs ↔ ∀ r ∈ rs, r.fair
  | [] => by simp [Rw.fairs]
  | r :: rs => by simp [Rw.fairs, fairs_iff (rs := rs)]
theorem Vl.pl {v : Vl} (h : v.fair) : Pl 2 v.pv := by
  cases v with
  | num i => simp only [Vl.pv, Pl, PlL]; exact ⟨ofS_fair "num", trivial, trivial⟩
  | read => simp only [Vl.pv, Pl, PlL]; exact ⟨ofS_fair "read", trivial⟩
  | copy x => simp only [Vl.pv, Pl, PlL]; exact ⟨ofS_fair "copy", h, trivial⟩
  | clean x => simp only [Vl.pv, Pl, PlL]; exact ⟨ofS_fair "clean", h, trivial⟩
  | add x y => simp only [Vl.pv, Pl, PlL]; exact ⟨ofS_fair "add", h.1, h.2, trivial⟩
  | call f xs => simp only [Vl.pv, Pl, PlL]; exact ⟨ofS_fair "call", h.1, fairL h.2, trivial⟩
theorem PlL.le {n m : Nat} {xs : List PV} (h : PlL n xs) (k : n ≤ m) : PlL m xs := PlL_iff.mpr fun x hx => (PlL_iff.mp h x hx).le k
mutual
theorem Rw.pl : ∀ {r : Rw}, r.fair → ∀ n, 2 * r.dep + 1 ≤ n → Pl n r.pv
  | .set x v, h, n, hn => by
    simp only [Rw.dep] at hn
    obtain ⟨n, rfl⟩ : ∃ m, n = m + 3 := ⟨n - 3, by omega⟩
    simp only [Rw.pv, Pl, PlL]
    exact ⟨ofS_fair "set", h.1, (Vl.pl h.2).le (by omega), trivial⟩
  | .send x, h, n, hn => by
    simp only [Rw.dep] at hn
    obtain ⟨n, rfl⟩ : ∃ m, n = m + 3 := ⟨n - 3, by omega⟩
    simp only [Rw.pv, Pl, PlL]
    exact ⟨ofS_fair "send", h, trivial⟩
  | .give x, h, n, hn => by
    simp only [Rw.dep] at hn
    obtain ⟨n, rfl⟩ : ∃ m, n = m + 3 := ⟨n - 3, by omega⟩
    simp only [Rw.pv, Pl, PlL]
    exact ⟨ofS_fair "give", h, trivial⟩
  | .iff x a b, h, n, hn => by
    simp only [Rw.dep] at hn
    obtain ⟨n, rfl⟩ : ∃ m, n = m + 3 := ⟨n - 3, by omega⟩
    simp only [Rw.pv, Pl, PlL]
    exact ⟨ofS_fair "if", h.1, Rw.pls h.2.1 _ (by omega), Rw.pls h.2.2 _ (by omega), trivial⟩
theorem Rw.pls : ∀ {rs : List Rw}, Rw.fairs rs → ∀ n, 2 * Rw.deps rs + 1 ≤ n → PlL n (Rw.pvs rs)
  | [], _, n, _ => by simp [Rw.pvs, PlL]
  | r :: rs, h, n, hn => by
    simp only [Rw.deps] at hn
    exact ⟨Rw.pl h.1 n (by omega), Rw.pls h.2 n (by omega)⟩
end
theorem Vl.fair_of {ns : List Str} {hs : List Hd} {v : Vl} (hn : ∀ x ∈ ns, Fair x) (hh : ∀ h ∈ hs, Fair h.1) (h : v.ok ns hs) : v.fair := by
  cases v with
  | num i => trivial
  | read => trivial
  | copy x => exact hn x h
  | clean x => exact hn x h
  | add x y => exact ⟨hn x h.1, hn y h.2⟩
  | call f xs => obtain ⟨h1, ps, h2, _⟩ := h; exact ⟨hh _ h2, fun x hx => hn x (h1 x hx)⟩
mutual
theorem Rw.fair_of {ns : List Str} {hs : List Hd} (hn : ∀ x ∈ ns, Fair x) (hh : ∀ h ∈ hs, Fair h.1) : ∀ {r : Rw}, r.ok ns hs → r.fair
  | .set x v, h => ⟨hn x h.1, Vl.fair_of hn hh h.2⟩
  | .send x, h => hn x h
  | .give x, h => hn x h
  | .iff x a b, h => ⟨hn x h.1, Rw.fairs_of hn hh h.2.1, Rw.fairs_of hn hh h.2.2⟩
theorem Rw.fairs_of {ns : List Str} {hs : List Hd} (hn : ∀ x ∈ ns, Fair x) (hh : ∀ h ∈ hs, Fair h.1) : ∀ {rs : List Rw}, Rw.oks ns hs rs → Rw.fairs rs
  | [], _ => trivial
  | r :: rs, h => ⟨Rw.fair_of hn hh h.1, Rw.fairs_of hn hh h.2⟩
end
mutual
theorem each_fair : ∀ (r : Rw), r.fair → ∀ q ∈ r.each, q.fair
  | .set x v, h, q, hq => by simp [Rw.each] at hq; subst hq; exact h
  | .send x, h, q, hq => by simp [Rw.each] at hq; subst hq; exact h
  | .give x, h, q, hq => by simp [Rw.each] at hq; subst hq; exact h
  | .iff x a b, h, q, hq => by
    simp only [Rw.each, List.mem_cons, List.mem_append] at hq
    rcases hq with rfl | hq | hq
    · exact h
    · exact eachs_fair a h.2.1 q hq
    · exact eachs_fair b h.2.2 q hq
theorem eachs_fair : ∀ (rs : List Rw), Rw.fairs rs → ∀ q ∈ Rw.eachs rs, q.fair
  | [], _, q, hq => by simp [Rw.eachs] at hq
  | r :: rs, h, q, hq => by
    simp only [Rw.eachs, List.mem_append] at hq
    rcases hq with hq | hq
    · exact each_fair r h.1 q hq
    · exact eachs_fair rs h.2 q hq
end
mutual
theorem each_dep : ∀ (r : Rw), ∀ q ∈ r.each, q.dep ≤ r.dep
  | .set x v, q, hq => by simp [Rw.each] at hq; subst hq; exact Nat.le_refl _
  | .send x, q, hq => by simp [Rw.each] at hq; subst hq; exact Nat.le_refl _
  | .give x, q, hq => by simp [Rw.each] at hq; subst hq; exact Nat.le_refl _
  | .iff x a b, q, hq => by
    simp only [Rw.each, List.mem_cons, List.mem_append] at hq
    rcases hq with rfl | hq | hq
    · exact Nat.le_refl _
    · have := eachs_dep a q hq; simp only [Rw.dep]; omega
    · have := eachs_dep b q hq; simp only [Rw.dep]; omega
theorem eachs_dep : ∀ (rs : List Rw), ∀ q ∈ Rw.eachs rs, q.dep ≤ Rw.deps rs
  | [], q, hq => by simp [Rw.eachs] at hq
  | r :: rs, q, hq => by
    simp only [Rw.eachs, List.mem_append] at hq
    simp only [Rw.deps]
    rcases hq with hq | hq
    · have := each_dep r q hq; omega
    · have := eachs_dep rs q hq; omega
end
mutual
theorem each_sub1 : ∀ (r q : Rw), q ∈ r.each → (∀ s ∈ q.each, s ∈ r.each) ∧ q.each.length ≤ r.each.length
  | .set x v, q, hq => by simp [Rw.each] at hq; subst hq; exact ⟨fun s h => h, Nat.le_refl _⟩
  | .send x, q, hq => by simp [Rw.each] at hq; subst hq; exact ⟨fun s h => h, Nat.le_refl _⟩
  | .give x, q, hq => by simp [Rw.each] at hq; subst hq; exact ⟨fun s h => h, Nat.le_refl _⟩
  | .iff x a b, q, hq => by
    simp only [Rw.each, List.mem_cons, List.mem_append] at hq
    rcases hq with rfl | hq | hq
    · exact ⟨fun s h => h, Nat.le_refl _⟩
    · have := each_subs a q hq
      refine ⟨fun s hs => ?_, ?_⟩
      · simp only [Rw.each, List.mem_cons, List.mem_append]; exact .inr (.inl (this.1 s hs))
      · simp only [Rw.each, List.length_cons, List.length_append]; have := this.2; omega
    · have := each_subs b q hq
      refine ⟨fun s hs => ?_, ?_⟩
      · simp only [Rw.each, List.mem_cons, List.mem_append]; exact .inr (.inr (this.1 s hs))
      · simp only [Rw.each, List.length_cons, List.length_append]; have := this.2; omega
theorem each_subs : ∀ (rs : List Rw) (q : Rw), q ∈ Rw.eachs rs → (∀ s ∈ q.each, s ∈ Rw.eachs rs) ∧ q.each.length ≤ (Rw.eachs rs).length
  | [], q, hq => by simp [Rw.eachs] at hq
  | r :: rs, q, hq => by
    simp only [Rw.eachs, List.mem_append] at hq
    rcases hq with hq | hq
    · have := each_sub1 r q hq
      refine ⟨fun s hs => ?_, ?_⟩
      · simp only [Rw.eachs, List.mem_append]; exact .inl (this.1 s hs)
      · simp only [Rw.eachs, List.length_append]; have := this.2; omega
    · have := each_subs rs q hq
      refine ⟨fun s hs => ?_, ?_⟩
      · simp only [Rw.eachs, List.mem_append]; exact .inr (this.1 s hs)
      · simp only [Rw.eachs, List.length_append]; have := this.2; omega
end
theorem each_sub (rs : List Rw) (r : Rw) (h : r ∈ Rw.eachs rs) : ∀ q ∈ r.each, q ∈ Rw.eachs rs := (each_subs rs r h).1
theorem each_len (rs : List Rw) (r : Rw) (h : r ∈ Rw.eachs rs) : r.each.length ≤ (Rw.eachs rs).length := (each_subs rs r h).2
/-- definitions whose letters are letters, at most so deep -/
def Df.fair (d : Df) : Prop := Fair d.1 ∧ (∀ x ∈ d.2.1, Fair x) ∧ Rw.fairs d.2.2
theorem Df.pl {d : Df} (h : d.fair) {n : Nat} (hn : 2 * Rw.deps d.2.2 + 3 ≤ n) : Pl n d.pv := by
  obtain ⟨n, rfl⟩ : ∃ m, n = m + 2 := ⟨n - 2, by omega⟩
  simp only [Df.pv, Pl, PlL]
  exact ⟨h.1, fairL h.2.1, Rw.pls h.2.2 _ (by omega), trivial⟩
theorem Prg.fair {ds : List Df} (p : Prg ds) : ∀ d ∈ ds, d.fair := by
  intro d hd
  have hh : d.hd ∈ ds.map Df.hd := List.mem_map.mpr ⟨d, hd, rfl⟩
  obtain ⟨ns, h1, h2⟩ := p.ok d hd
  exact ⟨(p.hd.nm _ hh).fair, fun x hx => (p.hd.pn _ hh x hx).fair, Rw.fairs_of (fun x hx => (h1 x hx).fair) (fun h hm => (p.hd.nm h hm).fair) h2⟩
theorem dfs_pl {ds : List Df} {n m : Nat} (hf : ∀ d ∈ ds, d.fair) (hd : ∀ d ∈ ds, Rw.deps d.2.2 ≤ m) (hn : 2 * m + 3 ≤ n) : PlL n (ds.map Df.pv) := PlL_iff.mpr fun p hp => by
  obtain ⟨d, hm, rfl⟩ := List.mem_map.mp hp
  have := hd d hm
  exact Df.pl (hf d hm) (by omega)
mutual
/-- widths are bounded as well -/
def Wd : Nat → PV → Prop
  | m, .tup xs => xs.length ≤ m ∧ WdL m xs
  | m, .fls xs => xs.length ≤ m ∧ WdL m xs
  | _, _ => True
def WdL : Nat → List PV → Prop
  | _, [] => True
  | m, x :: xs => Wd m x ∧ WdL m xs
end
theorem WdL_iff {n : Nat} : ∀ {xs : List PV}, WdL n xs ↔ ∀ x ∈ xs, Wd n x
  | [] => by simp [WdL]
  | x :: xs => by simp [WdL, WdL_iff (xs := xs)]
mutual
theorem Pl.ad : ∀ (n : Nat) (p : PV), Pl n p → Wd 16777216 p → AD n p
  | _, .non, _, _ => by simp [AD]
  | _, .int _, _, _ => by simp [AD]
  | _, .str _, _, _ => by simp [AD]
  | 0, .tup _, h, _ => by simp [Pl] at h
  | n + 1, .tup xs, h, w => by
    have w : xs.length ≤ 16777216 ∧ WdL 16777216 xs := w
    exact ⟨w.1, PlL.ad n xs h w.2⟩
  | n, .bl _, h, _ => by cases n <;> simp [Pl] at h
  | n, .fls _, h, _ => by cases n <;> simp [Pl] at h
  | n, .loc _, h, _ => by cases n <;> simp [Pl] at h
theorem PlL.ad : ∀ (n : Nat) (xs : List PV), PlL n xs → WdL 16777216 xs → ADL n xs
  | _, [], _, _ => by simp [ADL]
  | n, x :: xs, h, w => by
    have h' : Pl n x ∧ PlL n xs := h
    have w' : Wd 16777216 x ∧ WdL 16777216 xs := w
    exact ⟨Pl.ad n x h'.1 w'.1, PlL.ad n xs h'.2 w'.2⟩
end
theorem wd_stL {m : Nat} (xs : List Str) : WdL m (stL xs) := WdL_iff.mpr fun p hp => by
  obtain ⟨x, hx, rfl⟩ := List.mem_map.mp hp
  simp [Wd]
theorem Vl.wd {v : Vl} {m : Nat} (h : v.asked.length ≤ m) (hm : 5 ≤ m) : Wd m v.pv := by
  cases v with
  | call f xs => simp only [Vl.pv, Wd, WdL]; exact ⟨by simp; omega, trivial, trivial, ⟨by simpa [stL, Vl.asked] using h, wd_stL _⟩, trivial⟩
  | _ => simp only [Vl.pv, Wd, WdL]; exact ⟨by simp; omega, by simp⟩
mutual
theorem Rw.wd {m : Nat} (hm : 5 ≤ m) : ∀ {r : Rw}, r.each.length ≤ m → (∀ q ∈ r.each, q.ins.length ≤ m) → Wd m r.pv
  | .set x v, _, h => by
    have := h (.set x v) (by simp [Rw.each])
    simp only [Rw.pv, Wd, WdL]
    exact ⟨by simp; omega, trivial, trivial, Vl.wd (by simp [Rw.ins] at this; omega) hm, trivial⟩
  | .send x, _, h => by simp only [Rw.pv, Wd, WdL]; exact ⟨by simp; omega, by simp⟩
  | .give x, _, h => by simp only [Rw.pv, Wd, WdL]; exact ⟨by simp; omega, by simp⟩
  | .iff x a b, hl, h => by
    simp only [Rw.each, List.length_cons, List.length_append] at hl
    simp only [Rw.each, List.mem_cons, List.mem_append] at h
    have la := len_eachs a
    have lb := len_eachs b
    simp only [Rw.pv, Wd, WdL]
    exact ⟨by simp; omega, trivial, trivial, ⟨by rw [pvs_map, List.length_map]; omega, Rw.wds hm (by omega) fun q hq => h q (.inr (.inl hq))⟩, ⟨by rw [pvs_map, List.length_map]; omega, Rw.wds hm (by omega) fun q hq => h q (.inr (.inr hq))⟩, trivial⟩
theorem Rw.wds {m : Nat} (hm : 5 ≤ m) : ∀ {rs : List Rw}, (Rw.eachs rs).length ≤ m → (∀ q ∈ Rw.eachs rs, q.ins.length ≤ m) → WdL m (Rw.pvs rs)
  | [], _, _ => trivial
  | r :: rs, hl, h => by
    simp only [Rw.eachs, List.length_append] at hl
    simp only [Rw.eachs, List.mem_append] at h
    exact ⟨Rw.wd hm (by omega) fun q hq => h q (.inl hq), Rw.wds hm (by omega) fun q hq => h q (.inr hq)⟩
end
/-- sizes that the model bears -/
structure Sized (ds : List Df) : Prop where
  len : ds.length < 1000
  dep : ∀ d ∈ ds, Rw.deps d.2.2 < 6
  cnt : ∀ d ∈ ds, (Rw.eachs d.2.2).length ≤ 1000
  ins : ∀ d ∈ ds, ∀ r ∈ Rw.eachs d.2.2, r.ins.length ≤ 1000
  par : ∀ d ∈ ds, d.2.1.length ≤ 1000
  nms : ∀ d ∈ ds, ∀ x ∈ namesL d, x.length ≤ 1000
  own : ∀ d ∈ ds, d.1.length ≤ 1000
theorem Df.wd {ds : List Df} (z : Sized ds) {d : Df} (hd : d ∈ ds) : Wd 16777216 d.pv := by
  have h1 := z.cnt d hd
  have h2 := len_eachs d.2.2
  have h3 := z.par d hd
  simp only [Df.pv, Wd, WdL]
  exact ⟨by simp, trivial, ⟨by simp [stL]; omega, wd_stL _⟩, ⟨by rw [pvs_map, List.length_map]; omega, Rw.wds (by omega) (by omega) fun q hq => by have := z.ins d hd q hq; omega⟩, trivial⟩
theorem Prg.sized {ds : List Df} (p : Prg ds) : Sized ds := by
  have hl : ds.length ≤ 6 := by have := p.hd.len; simpa using this
  refine ⟨by omega, fun d hd => by have := p.dep d hd; omega, fun d hd => by have := p.cnt d hd; omega, fun d hd r hr => ?_, fun d hd => ?_, fun d hd x hx => ?_, fun d hd => ?_⟩
  · obtain ⟨ns, h1, h2⟩ := p.ok d hd
    have := ins_len (eachs_ok _ h2 r hr) p.hd.pl
    omega
  · have := p.hd.pl d.hd (List.mem_map.mpr ⟨d, hd, rfl⟩)
    show d.2.1.length ≤ 1000
    have : d.2.1.length ≤ 4 := this
    omega
  · have := (p.sound d hd).2
    unfold soundB at this
    simp only [Bool.and_eq_true, List.all_eq_true] at this
    have := (nmB_iff.mp (this.1.1 x hx)).q
    omega
  · have := (nmB_iff.mp (p.sound d hd).1).q
    omega
def cntL (ds : List Df) : Nat := (ds.flatMap fun d => Rw.eachs d.2.2).length
theorem cntL_add (ds : List Df) (d : Df) : cntL (ds ++ [d]) = cntL ds + (Rw.eachs d.2.2).length := by
  unfold cntL
  rw [List.flatMap_append, List.length_append]
  simp [List.flatMap_cons]
theorem cntL_nil : cntL [] = 0 := rfl
theorem cntL_le {ds : List Df} (z : Sized ds) : cntL ds ≤ ds.length * 1000 := len_flatMap_le z.cnt
theorem Prg.main {ds : List Df} (p : Prg ds) : firstH (ds.map Df.hd) (Str.ofString "main") = some [] := firstH_mem p.hd.nd p.hd.main
theorem Prg.nd {ds : List Df} (p : Prg ds) : (ds.map (·.1)).Nodup := by
  have := p.hd.nd
  rw [List.map_map] at this
  exact this
theorem find_of {ds : List Df} {d : Df} (nd : (ds.map (·.1)).Nodup) (h : d ∈ ds) : ds.find? (fun e => decide (e.1 = d.1)) = some d := by
  induction ds with
  | nil => simp at h
  | cons x ds ih =>
    simp only [List.map_cons, List.nodup_cons] at nd
    rcases List.mem_cons.mp h with h | h
    · subst h; simp
    · have hne : x.1 ≠ d.1 := fun z => nd.1 (by rw [z]; exact List.mem_map.mpr ⟨d, h, rfl⟩)
      rw [List.find?_cons]
      simp only [hne, decide_false]
      exact ih nd.2 h
end PL
/-! PLT: dicts of pairs, unpacked lists, lists of truths. -/
namespace PL
open PySem PySem.Spec PyProof.Rows L2
section
variable {P : PV → Sto → Prop} {R : Str → PV → Sto → Prop} {S : Sto} {xs : List PV} {kvs : List (Key × PV)} {l : Nat}
theorem dictL_wp (h1 : S[l]? = some (.lst xs)) (h2 : pairsP xs = some kvs) (h : ∀ n S', S'[n]? = some (.dct (mergeP [] kvs)) → Keep [] S S' → S.length ≤ n → P (.loc n) S') : wp (lift (dictLP (.loc l) S)) P R := by
  unfold dictLP
  simp only [h1, h2, Option.map_some, lift_some, wp_ok]
  exact alloc_wp h
end
theorem pairsP_map {α : Type} (f : α → Str) (g : α → PV) : ∀ xs : List α, pairsP (xs.map fun x => .tup [.str (f x), g x]) = some (xs.map fun x => ((.inr (f x) : Key), g x))
  | [] => rfl
  | x :: xs => by simp [pairsP, pairP, keyP, pairsP_map f g xs]
theorem mergeP_nd : ∀ (more acc : List (Key × PV)), ((acc ++ more).map (·.1)).Nodup → mergeP acc more = acc ++ more
  | [], acc, _ => by simp [mergeP]
  | (k, v) :: more, acc, h => by
    have hn : valP acc k = none := by
      simp only [valP, Option.map_eq_none_iff, List.find?_eq_none, decide_eq_true_eq]
      intro x hx e
      rw [List.map_append, List.map_cons] at h
      exact (List.nodup_append.mp h).2.2 x.1 (List.mem_map.mpr ⟨x, hx, rfl⟩) k (by simp) e
    show mergeP (putP acc k v) more = _
    rw [putP_none hn, mergeP_nd more (acc ++ [(k, v)]) (by simpa using h)]
    simp
theorem valP_map {α : Type} (f : α → Str) (g : α → PV) (x : Str) : ∀ xs : List α, valP (xs.map fun y => ((.inr (f y) : Key), g y)) (.inr x) = (xs.find? fun y => decide (f y = x)).map g
  | [] => rfl
  | y :: ys => by
    have ih := valP_map f g x ys
    simp only [valP, List.map_cons, List.find?_cons] at ih ⊢
    by_cases h : f y = x
    · simp [h]
    · have h1 : decide ((Sum.inr (f y) : Key) = Sum.inr x) = false := by simpa using h
      have h2 : decide (f y = x) = false := by simpa using h
      rw [h1, h2]
      exact ih
def asgLO (n : Nat) (g : GMs) (τ : En) : PV → Sto → OS := fun v S1 => match v with
  | .loc l => (match S1[l]? with
    | some (.lst xs) => if xs.length = n then (match g xs τ with | some τ1 => .nx τ1 S1 | none => .bad) else .bad
    | _ => .bad)
  | _ => .bad
@[simp] theorem e_asgLS (n : Nat) (m : EM PV) (g : GMs) (τ : En) (S : Sto) : asgLS n m g τ S = bndS (m τ S) τ (asgLO n g τ) := rfl
@[simp] theorem e_asgLO (n : Nat) (g : GMs) (τ : En) (l : Nat) (S1 : Sto) : asgLO n g τ (.loc l) S1 = match S1[l]? with
    | some (.lst xs) => if xs.length = n then (match g xs τ with | some τ1 => .nx τ1 S1 | none => .bad) else .bad
    | _ => .bad := rfl
@[simp] theorem intP_bl (b : Bool) (S : Sto) : intP (.bl b) S = some (.int (if b then 1 else 0), S) := (rfl)
/-! plain values and truths -/
def PlB (n : Nat) (p : PV) : Prop := Pl n p ∨ ∃ b, p = .bl b
theorem PlB.toD {n : Nat} {p : PV} (h : PlB n p) : ∃ d, toD p = some d ∧ d.canLay0 = true ∧ d.depth ≤ n := by
  rcases h with h | ⟨b, rfl⟩
  · exact Pl.toD n p h
  · exact ⟨_, rfl, rfl, Nat.zero_le _⟩
theorem PlB.toDL {n : Nat} : ∀ {xs : List PV}, (∀ x ∈ xs, PlB n x) → ∃ ds, PL.toDL xs = some ds ∧ PyData.canLayAll0 ds = true ∧ PyData.depthAll ds ≤ n ∧ ds.length = xs.length
  | [], _ => ⟨[], rfl, rfl, Nat.zero_le _, rfl⟩
  | x :: xs, h => by
    obtain ⟨d, h1, h2, h3⟩ := (h x (by simp)).toD
    obtain ⟨ds, h4, h5, h6, h7⟩ := PlB.toDL (xs := xs) fun y hy => h y (by simp [hy])
    exact ⟨d :: ds, by simp [PL.toDL, h1, h4], by simp [PyData.canLayAll0, h2, h5], by show max d.depth (PyData.depthAll ds) ≤ n; omega, by simp [h7]⟩
theorem eqB_lnil {n : Nat} {l k : Nat} {xs : List PV} {S : Sto} (hn : n < 64) (hl : S[l]? = some (.lst xs)) (hk : S[k]? = some (.lst [])) (hp : ∀ x ∈ xs, PlB n x) : eqB (.loc l) (.loc k) S = some xs.isEmpty := by
  obtain ⟨d, h1, h2, h3, h7⟩ := PlB.toDL hp
  unfold eqB
  have hd : SeqAt.shaped (.list d) = true := shaped_of h2 (by show PyData.depthAll d + 1 ≤ 64; omega)
  have he : SeqAt.shaped (.list []) = true := shaped_of rfl (by decide)
  simp only [toDS, hl, hk, h1, PL.toDL, Option.map_some, hd, he, and_self, if_true]
  cases xs with
  | nil => cases d with
    | nil => rfl
    | cons _ _ => simp at h7
  | cons x xs => cases d with
    | nil => simp at h7
    | cons a b => simp [PyData.eqv, PyData.eqvAll]
end PL
/-! PLRN: programs with their names called otherwise; programs nearly good. -/
namespace PL
open PySem PySem.Spec PyProof.Rows L2
def Vl.mapN (f : Str → Str) : Vl → Vl
  | .num i => .num i
  | .copy x => .copy (f x)
  | .add x y => .add (f x) (f y)
  | .read => .read
  | .clean x => .clean (f x)
  | .call g xs => .call (f g) (xs.map f)
mutual
def Rw.mapN (f : Str → Str) : Rw → Rw
  | .set x v => .set (f x) (v.mapN f)
  | .iff x a b => .iff (f x) (Rw.mapsN f a) (Rw.mapsN f b)
  | .send x => .send (f x)
  | .give x => .give (f x)
def Rw.mapsN (f : Str → Str) : List Rw → List Rw
  | [] => []
  | r :: rs => r.mapN f :: Rw.mapsN f rs
end
theorem mapsN_map (f : Str → Str) : ∀ rs : List Rw, Rw.mapsN f rs = rs.map (Rw.mapN f)
  | [] => rfl
  | r :: rs => by simp [Rw.mapsN, mapsN_map f rs]
def Hd.mapN (f : Str → Str) (h : Hd) : Hd := (f h.1, h.2.map f)
def Df.mapN (f : Str → Str) (d : Df) : Df := (f d.1, d.2.1.map f, Rw.mapsN f d.2.2)
mutual
theorem each_mapN (f : Str → Str) : ∀ r : Rw, (r.mapN f).each = r.each.map (Rw.mapN f)
  | .set x v => by simp [Rw.mapN, Rw.each]
  | .send x => by simp [Rw.mapN, Rw.each]
  | .give x => by simp [Rw.mapN, Rw.each]
  | .iff x a b => by simp only [Rw.mapN, Rw.each, eachs_mapN f a, eachs_mapN f b, List.map_cons, List.map_append]
theorem eachs_mapN (f : Str → Str) : ∀ rs : List Rw, Rw.eachs (Rw.mapsN f rs) = (Rw.eachs rs).map (Rw.mapN f)
  | [] => rfl
  | r :: rs => by simp only [Rw.mapsN, Rw.eachs, each_mapN f r, eachs_mapN f rs, List.map_append]
end
mutual
theorem dep_mapN (f : Str → Str) : ∀ r : Rw, (r.mapN f).dep = r.dep
  | .set x v => by simp [Rw.mapN, Rw.dep]
  | .send x => by simp [Rw.mapN, Rw.dep]
  | .give x => by simp [Rw.mapN, Rw.dep]
  | .iff x a b => by simp only [Rw.mapN, Rw.dep, deps_mapN f a, deps_mapN f b]
theorem deps_mapN (f : Str → Str) : ∀ rs : List Rw, Rw.deps (Rw.mapsN f rs) = Rw.deps rs
  | [] => rfl
  | r :: rs => by simp only [Rw.mapsN, Rw.deps, dep_mapN f r, deps_mapN f rs]
end
theorem asked_mapN (f : Str → Str) (v : Vl) : (v.mapN f).asked = v.asked.map f := by cases v <;> simp [Vl.mapN, Vl.asked]
theorem ins_mapN (f : Str → Str) (r : Rw) : (r.mapN f).ins = r.ins.map f := by cases r <;> simp [Rw.mapN, Rw.ins, asked_mapN]
def Cl.mapN (f : Str → Str) (c : Cl) : Cl := (f c.1, c.2.map f)
theorem callL_mapN (f : Str → Str) (r : Rw) : (r.mapN f).callL = r.callL.map (Cl.mapN f) := by
  cases r with
  | set x v => cases v <;> simp [Rw.mapN, Vl.mapN, Rw.callL, Cl.mapN]
  | _ => simp [Rw.mapN, Rw.callL]
theorem namesL_mapN (f : Str → Str) (d : Df) : namesL (d.mapN f) = (namesL d).map f := by
  simp only [namesL, Df.mapN, eachs_mapN, List.flatMap_map, List.map_append, List.map_flatMap, ins_mapN]
theorem callsL_mapN (f : Str → Str) (d : Df) : callsL (d.mapN f) = (callsL d).map (Cl.mapN f) := by
  simp only [callsL, Df.mapN, eachs_mapN, List.flatMap_map, List.map_flatMap, callL_mapN]
/-! all names of some kind -/
def Vl.All (p : Str → Prop) : Vl → Prop
  | .num _ => True
  | .copy x => p x
  | .add x y => p x ∧ p y
  | .read => True
  | .clean x => p x
  | .call g xs => p g ∧ ∀ x ∈ xs, p x
mutual
def Rw.All (p : Str → Prop) : Rw → Prop
  | .set x v => p x ∧ v.All p
  | .iff x a b => p x ∧ Rw.Alls p a ∧ Rw.Alls p b
  | .send x => p x
  | .give x => p x
def Rw.Alls (p : Str → Prop) : List Rw → Prop
  | [] => True
  | r :: rs => r.All p ∧ Rw.Alls p rs
end
theorem Alls_iff {p : Str → Prop} : ∀ {rs : List Rw}, Rw.Alls p rs ↔ ∀ r ∈ rs, r.All p
  | [] => by simp [Rw.Alls]
  | r :: rs => by simp [Rw.Alls, Alls_iff (rs := rs)]
theorem Vl.All_of {p : Str → Prop} {ns : List Str} {hs : List Hd} {v : Vl} (hn : ∀ x ∈ ns, p x) (hh : ∀ h ∈ hs, p h.1) (h : v.ok ns hs) : v.All p := by
  cases v with
  | num i => trivial
  | read => trivial
  | copy x => exact hn x h
  | clean x => exact hn x h
  | add x y => exact ⟨hn x h.1, hn y h.2⟩
  | call f xs => obtain ⟨h1, ps, h2, _⟩ := h; exact ⟨hh _ h2, fun x hx => hn x (h1 x hx)⟩
mutual
theorem Rw.All_of {p : Str → Prop} {ns : List Str} {hs : List Hd} (hn : ∀ x ∈ ns, p x) (hh : ∀ h ∈ hs, p h.1) : ∀ {r : Rw}, r.ok ns hs → r.All p
  | .set x v, h => ⟨hn x h.1, Vl.All_of hn hh h.2⟩
  | .send x, h => hn x h
  | .give x, h => hn x h
  | .iff x a b, h => ⟨hn x h.1, Rw.Alls_of hn hh h.2.1, Rw.Alls_of hn hh h.2.2⟩
theorem Rw.Alls_of {p : Str → Prop} {ns : List Str} {hs : List Hd} (hn : ∀ x ∈ ns, p x) (hh : ∀ h ∈ hs, p h.1) : ∀ {rs : List Rw}, Rw.oks ns hs rs → Rw.Alls p rs
  | [], _ => trivial
  | r :: rs, h => ⟨Rw.All_of hn hh h.1, Rw.Alls_of hn hh h.2⟩
end
mutual
theorem Rw.All_fair : ∀ {r : Rw}, r.All Nm → r.fair
  | .set x v, h => ⟨h.1.fair, by
      have := h.2
      cases v with
      | num i => trivial
      | read => trivial
      | copy x => exact Nm.fair this
      | clean x => exact Nm.fair this
      | add x y => exact ⟨this.1.fair, this.2.fair⟩
      | call f xs => exact ⟨this.1.fair, fun x hx => (this.2 x hx).fair⟩⟩
  | .send x, h => Nm.fair h
  | .give x, h => Nm.fair h
  | .iff x a b, h => ⟨h.1.fair, Rw.Alls_fair h.2.1, Rw.Alls_fair h.2.2⟩
theorem Rw.Alls_fair : ∀ {rs : List Rw}, Rw.Alls Nm rs → Rw.fairs rs
  | [], _ => trivial
  | r :: rs, h => ⟨Rw.All_fair h.1, Rw.Alls_fair h.2⟩
end
mutual
theorem each_All {p : Str → Prop} : ∀ (r : Rw), r.All p → ∀ q ∈ r.each, q.All p
  | .set x v, h, q, hq => by simp [Rw.each] at hq; subst hq; exact h
  | .send x, h, q, hq => by simp [Rw.each] at hq; subst hq; exact h
  | .give x, h, q, hq => by simp [Rw.each] at hq; subst hq; exact h
  | .iff x a b, h, q, hq => by
    simp only [Rw.each, List.mem_cons, List.mem_append] at hq
    rcases hq with rfl | hq | hq
    · exact h
    · exact eachs_All a h.2.1 q hq
    · exact eachs_All b h.2.2 q hq
theorem eachs_All {p : Str → Prop} : ∀ (rs : List Rw), Rw.Alls p rs → ∀ q ∈ Rw.eachs rs, q.All p
  | [], _, q, hq => by simp [Rw.eachs] at hq
  | r :: rs, h, q, hq => by
    simp only [Rw.eachs, List.mem_append] at hq
    rcases hq with hq | hq
    · exact each_All r h.1 q hq
    · exact eachs_All rs h.2 q hq
end
theorem ins_All {p : Str → Prop} {r : Rw} (h : r.All p) : ∀ x ∈ r.ins, p x := by
  intro y hy
  cases r with
  | set x v =>
    simp only [Rw.ins, List.mem_append, List.mem_singleton] at hy
    rcases hy with hy | rfl
    · have h2 := h.2
      cases v with
      | num _ => simp [Vl.asked] at hy
      | read => simp [Vl.asked] at hy
      | copy z => simp [Vl.asked] at hy; subst hy; exact h2
      | clean z => simp [Vl.asked] at hy; subst hy; exact h2
      | add z w => simp [Vl.asked] at hy; rcases hy with rfl | rfl; exact h2.1; exact h2.2
      | call f xs => exact h2.2 y hy
    · exact h.1
  | iff x a b => simp [Rw.ins] at hy; subst hy; exact h.1
  | send x => simp [Rw.ins] at hy; subst hy; exact h
  | give x => simp [Rw.ins] at hy; subst hy; exact h
theorem callL_All {p : Str → Prop} {r : Rw} (h : r.All p) : ∀ c ∈ r.callL, p c.1 ∧ ∀ x ∈ c.2, p x := by
  intro c hc
  cases r with
  | set x v =>
    cases v with
    | call f xs => simp [Rw.callL] at hc; subst hc; exact h.2
    | _ => simp [Rw.callL] at hc
  | _ => simp [Rw.callL] at hc
/-! renaming of names -/
mutual
theorem All_mapN {p q : Str → Prop} {f : Str → Str} (hf : ∀ x, p x → q (f x)) : ∀ {r : Rw}, r.All p → (r.mapN f).All q
  | .set x v, h => ⟨hf x h.1, by
      have h2 := h.2
      cases v with
      | num i => trivial
      | read => trivial
      | copy x => exact hf _ h2
      | clean x => exact hf _ h2
      | add x y => exact ⟨hf _ h2.1, hf _ h2.2⟩
      | call f xs => exact ⟨hf _ h2.1, fun y hy => by obtain ⟨x, hx, rfl⟩ := List.mem_map.mp hy; exact hf _ (h2.2 x hx)⟩⟩
  | .send x, h => hf x h
  | .give x, h => hf x h
  | .iff x a b, h => ⟨hf x h.1, Alls_mapN hf h.2.1, Alls_mapN hf h.2.2⟩
theorem Alls_mapN {p q : Str → Prop} {f : Str → Str} (hf : ∀ x, p x → q (f x)) : ∀ {rs : List Rw}, Rw.Alls p rs → Rw.Alls q (Rw.mapsN f rs)
  | [], _ => trivial
  | r :: rs, h => ⟨All_mapN hf h.1, Alls_mapN hf h.2⟩
end
/-- nearly a program: all names are names, definitions by different names, small -/
structure NP (ds : List Df) : Prop where
  nd : (ds.map (·.1)).Nodup
  nm : ∀ d ∈ ds, Nm d.1 ∧ (∀ x ∈ d.2.1, Nm x) ∧ Rw.Alls Nm d.2.2
  len : ds.length ≤ 6
  dep : ∀ d ∈ ds, Rw.deps d.2.2 ≤ 4
  cnt : ∀ d ∈ ds, (Rw.eachs d.2.2).length ≤ 60
  par : ∀ d ∈ ds, d.2.1.length ≤ 4
  ins : ∀ d ∈ ds, ∀ r ∈ Rw.eachs d.2.2, r.ins.length ≤ 5
theorem Prg.np {ds : List Df} (p : Prg ds) : NP ds where
  nd := p.nd
  nm := fun d hd => by
    have hh : d.hd ∈ ds.map Df.hd := List.mem_map.mpr ⟨d, hd, rfl⟩
    obtain ⟨ns, h1, h2⟩ := p.ok d hd
    exact ⟨p.hd.nm _ hh, p.hd.pn _ hh, Rw.Alls_of h1 p.hd.nm h2⟩
  len := by have := p.hd.len; simpa using this
  dep := p.dep
  cnt := p.cnt
  par := fun d hd => p.hd.pl d.hd (List.mem_map.mpr ⟨d, hd, rfl⟩)
  ins := fun d hd r hr => by
    obtain ⟨ns, h1, h2⟩ := p.ok d hd
    exact ins_len (eachs_ok _ h2 r hr) p.hd.pl
theorem NP.names {ds : List Df} (p : NP ds) : ∀ d ∈ ds, ∀ x ∈ namesL d, Nm x := by
  intro d hd x hx
  rcases List.mem_append.mp hx with hx | hx
  · obtain ⟨r, hr, hx⟩ := List.mem_flatMap.mp hx
    exact ins_All (eachs_All _ (p.nm d hd).2.2 r hr) x hx
  · exact (p.nm d hd).2.1 x hx
theorem NP.sized {ds : List Df} (p : NP ds) : Sized ds where
  len := by have := p.len; omega
  dep := fun d hd => by have := p.dep d hd; omega
  cnt := fun d hd => by have := p.cnt d hd; omega
  ins := fun d hd r hr => by have := p.ins d hd r hr; omega
  par := fun d hd => by have := p.par d hd; omega
  nms := fun d hd x hx => by have := (p.names d hd x hx).q; omega
  own := fun d hd => by have := (p.nm d hd).1.q; omega
theorem NP.fair {ds : List Df} (p : NP ds) : ∀ d ∈ ds, d.fair := fun d hd => ⟨(p.nm d hd).1.fair, fun x hx => ((p.nm d hd).2.1 x hx).fair, Rw.Alls_fair (p.nm d hd).2.2⟩
theorem NP.sub {ds es : List Df} (p : NP ds) (h : es.Sublist ds) : NP es where
  nd := (h.map (·.1)).nodup p.nd
  nm := fun d hd => p.nm d (h.subset hd)
  len := Nat.le_trans h.length_le p.len
  dep := fun d hd => p.dep d (h.subset hd)
  cnt := fun d hd => p.cnt d (h.subset hd)
  par := fun d hd => p.par d (h.subset hd)
  ins := fun d hd => p.ins d (h.subset hd)
theorem NP.perm {ds es : List Df} (p : NP ds) (h : ds.Perm es) : NP es where
  nd := (h.map (·.1)).nodup_iff.mp p.nd
  nm := fun d hd => p.nm d (h.mem_iff.mpr hd)
  len := by rw [← h.length_eq]; exact p.len
  dep := fun d hd => p.dep d (h.mem_iff.mpr hd)
  cnt := fun d hd => p.cnt d (h.mem_iff.mpr hd)
  par := fun d hd => p.par d (h.mem_iff.mpr hd)
  ins := fun d hd => p.ins d (h.mem_iff.mpr hd)
/-- one definition with a parameter or a row less -/
theorem NP.less {a b : List Df} {d e : Df} (p : NP (a ++ d :: b)) (h1 : e.1 = d.1) (h2 : e.2.1.Sublist d.2.1) (h3 : e.2.2.Sublist d.2.2) : NP (a ++ e :: b) := by
  have mem : ∀ c ∈ a ++ e :: b, c = e ∨ c ∈ a ++ d :: b := fun c hc => by
    simp only [List.mem_append, List.mem_cons] at hc ⊢
    rcases hc with h | h | h
    · exact .inr (.inl h)
    · exact .inl h
    · exact .inr (.inr (.inr h))
  have hd : d ∈ a ++ d :: b := by simp
  have hs : (Rw.eachs e.2.2).Sublist (Rw.eachs d.2.2) := by
    have : ∀ {x y : List Rw}, x.Sublist y → (Rw.eachs x).Sublist (Rw.eachs y) := by
      intro x y h
      induction h with
      | slnil => exact .refl _
      | cons r _ ih => rw [Rw.eachs]; exact ih.trans (List.sublist_append_right _ _)
      | cons_cons r _ ih => rw [Rw.eachs, Rw.eachs]; exact (List.Sublist.refl _).append ih
    exact this h3
  have hdep : Rw.deps e.2.2 ≤ Rw.deps d.2.2 := by
    have : ∀ {x y : List Rw}, x.Sublist y → Rw.deps x ≤ Rw.deps y := by
      intro x y h
      induction h with
      | slnil => exact Nat.le_refl _
      | cons r _ ih => rw [Rw.deps]; omega
      | cons_cons r _ ih => rw [Rw.deps, Rw.deps]; omega
    exact this h3
  refine ⟨?_, ?_, ?_, ?_, ?_, ?_, ?_⟩
  · have := p.nd
    simpa [h1] using this
  · intro c hc
    rcases mem c hc with rfl | hc
    · have := p.nm d hd
      exact ⟨by rw [h1]; exact this.1, fun x hx => this.2.1 x (h2.subset hx), Alls_iff.mpr fun r hr => Alls_iff.mp this.2.2 r (h3.subset hr)⟩
    · exact p.nm c hc
  · have := p.len
    simpa using this
  · intro c hc
    rcases mem c hc with rfl | hc
    · have := p.dep d hd; omega
    · exact p.dep c hc
  · intro c hc
    rcases mem c hc with rfl | hc
    · have := p.cnt d hd; have := hs.length_le; omega
    · exact p.cnt c hc
  · intro c hc
    rcases mem c hc with rfl | hc
    · have := p.par d hd; have := h2.length_le; omega
    · exact p.par c hc
  · intro c hc
    rcases mem c hc with rfl | hc
    · exact fun r hr => p.ins d hd r (hs.subset hr)
    · exact p.ins c hc
theorem nodup_map_on {α β : Type} {f : α → β} : ∀ {l : List α}, (∀ x ∈ l, ∀ y ∈ l, f x = f y → x = y) → l.Nodup → (l.map f).Nodup
  | [], _, _ => by simp
  | a :: l, h, nd => by
    have nd' := List.nodup_cons.mp nd
    rw [List.map_cons, List.nodup_cons]
    refine ⟨fun z => ?_, nodup_map_on (fun x hx y hy => h x (by simp [hx]) y (by simp [hy])) nd'.2⟩
    obtain ⟨b, hb, e⟩ := List.mem_map.mp z
    have := h b (by simp [hb]) a (by simp) e
    subst this
    exact nd'.1 hb
theorem Rw.dep_pos (r : Rw) : 1 ≤ r.dep := by cases r <;> simp [Rw.dep] <;> omega
theorem rows_sub : ∀ (rs : List Rw) (r : Rw), r ∈ rs → r.dep ≤ Rw.deps rs ∧ r.each.length ≤ (Rw.eachs rs).length ∧ ∀ q ∈ r.each, q ∈ Rw.eachs rs
  | [], r, h => by simp at h
  | s :: rs, r, h => by
    rcases List.mem_cons.mp h with rfl | h
    · simp only [Rw.deps, Rw.eachs, List.length_append, List.mem_append]
      exact ⟨by omega, by omega, fun q hq => .inl hq⟩
    · obtain ⟨h1, h2, h3⟩ := rows_sub rs r h
      simp only [Rw.deps, Rw.eachs, List.length_append, List.mem_append]
      exact ⟨by omega, by omega, fun q hq => .inr (h3 q hq)⟩
theorem cut_drop {xs : List PV} (k : Nat) : cutP xs (some (k : Int)) none = xs.drop k := by
  unfold cutP
  rw [HT.sIx_nat, HT.sIx_none]
  rcases Nat.le_total k xs.length with h | h
  · rw [Nat.min_eq_left h, List.take_of_length_le (by simp)]
  · rw [Nat.min_eq_right h, List.drop_of_length_le (Nat.le_refl _), List.drop_of_length_le h]; simp
end PL
/-! PLZ: o == u, o != u, o in [u] of an own class with its own ==. -/
namespace PL
open PySem PySem.Spec PyProof.Rows L2
section
variable {prog : Program} {w : World} {A : Around} {E : Value → Shared → Prop} {s : Shared} {K : PySem.W.Frag} {x C L f : Addr} {ox : Obj} {od : Option Obj} {b tb : Value} {h₀ : Heap} {m : Str → Option Value}
theorem ne_entry {Q : Fin → Shared → Prop} (hu : A.units < cLine) (X : K.In s.heap) (I : PySem.W.InstAt s.heap x ox C od) (hs : PySem.W.findIn K (.ref C) "__eq__" = some (some (.ref f))) (hf : PySem.W.isFn K (.ref f) = true)
    (h : wpAny (model prog w) A (call (.ref f) [.ref x, b]) (fun v s' => ∃ c, v = .bool c ∧ Q (.done (.ret (.bool (!c)))) s') E s) : wpAny (model prog w) A (Builtin.«object.__ne__» ⟨[.ref x, b], []⟩) Q E s := by
  unfold Builtin.«object.__ne__»
  repeat (first
    | with_reducible refine wpAny_cRoomFor hu ?_
    | (refine wpAny_bind (m := callSpecialIfBound? (.ref x) (Str.ofString "__eq__") [b])
        (PySem.W.ifBound_K X I hs hf (wpAny_mono h (fun r s' hr => by
          obtain ⟨c, rfl, hq⟩ := hr
          repeat (first | exact hq | exact wpAny_pure hq | exact wpAny_truthy_bool hq | (refine wpAny_bind (m := truthy (.bool _)) (wpAny_truthy_bool ?_)) | wp_step)) fun _ _ e => e)))
    | wp_step)
theorem ifBound_ne {M : Model} {args : List Value} {Q : Option Value → Shared → Prop} (X : K.In s.heap) (I : PySem.W.InstAt s.heap x ox C od) (hs : PySem.W.findIn K (.ref C) "__ne__" = some (some (.builtin "object.__ne__")))
    (h : wpAny M A (call (.builtin "object.__ne__") (.ref x :: args)) (fun v => Q (some v)) E s) : wpAny M A (callSpecialIfBound? (.ref x) "__ne__" args) Q E s := by
  simp only [callSpecialIfBound?, bindSpecialIfBound?]
  refine wpAny_holding (wpAny_bind (wpAny_bind (wpAny_bind (I.type.here ((PySem.W.looks_findIn X hs).here ?_)))))
  refine wpAny_bind (wpAny_askSetting (wpAny_ite ?_))
  have fin : wpAny M A (call (.builtin "object.__ne__") ([.ref x] ++ args) >>= fun v => pure (some v)) Q E s := wpAny_bind (wpAny_mono h (fun v s' h' => wpAny_pure h') fun _ _ h' => h')
  split
  · exact wpAny_bind (wpAny_of_eq (F.cmp_object.ne.bind _) (wpAny_pure (by exact fin)))
  · exact wpAny_tryCatch (wpAny_bind (wpAny_of_eq (F.cmp_object.ne.bind _) (wpAny_pure (by exact fin))))
theorem ne_K {Q : Value → Shared → Prop} (hu : A.units + 1 < cLine) (F0 : Fr h₀ L s.heap m) (X₀ : K.In h₀) (I : PySem.W.InstAt s.heap x ox C od) (hb : PySem.W.Looks (model prog w) s.heap (typeOf b) tb) (hn : PySem.W.notFirst K C tb = true)
    (hm : PySem.W.mroIn K C (.type "object") = some true) (hne : PySem.W.findIn K (.ref C) "__ne__" = some (some (.builtin "object.__ne__"))) (hs : PySem.W.findIn K (.ref C) "__eq__" = some (some (.ref f))) (hf : PySem.W.isFn K (.ref f) = true)
    (h : wpAny (model prog w) A.in1 (call (.ref f) [.ref x, b]) (fun v s' => ∃ c, v = .bool c ∧ Q (.bool (!c)) s') E s) : wpAny (model prog w) A (richCompare .NotEq (.ref x) b) Q E s := by
  have X := X₀.keeps F0.keep
  have one : wpAny (model prog w) A (tryCompare (.ref x) "__ne__" b) (fun r s' => ∃ v, r = some v ∧ Q v s') E s := by
    unfold tryCompare
    refine wpAny_bind (ifBound_ne X I hne (wpAny_call (codeAny_call_builtin F.cmp_object.ne.plain F.cmpEntry_ne (PySem.W.check_slot F.cmpKind_ne F.cmpSplit_ne (I.type.andThen (PySem.W.looks_mroIn X hm)) (F.cmpArgs_ne _ _)
      (ne_entry (A := A.in1) hu X I hs hf (wpAny_mono h (fun v s' hv => ?_) fun _ _ e => e))))))
    obtain ⟨c, rfl, hq⟩ := hv
    first
      | exact ⟨c, rfl, wpAny_pure ⟨_, rfl, hq⟩⟩
      | exact ⟨c, rfl, wpAny_pure (wpAny_pure ⟨_, rfl, hq⟩)⟩
  unfold richCompare
  simp only [oneThing_ref]
  refine wpAny_holding (wpAny_bind (wpAny_cRoomFor (Nat.lt_of_succ_lt hu) ?_))
  refine wpAny_bind (I.type.here (wpAny_bind (hb.here ?_)))
  split
  · rename_i q
    have e : PySem.W.subIn K tb (.ref C) = some false := by
      rcases Bool.or_eq_true_iff.mp hn with e | e
      · rw [beq_iff_eq.mp e] at q; simp at q
      · exact beq_iff_eq.mp e
    refine wpAny_bind ((PySem.W.looks_subIn X e).here ?_)
    simp only [Bool.false_eq_true, if_false]
    refine wpAny_bind (wpAny_mono one (fun r s' z => ?_) fun _ _ e => e)
    obtain ⟨v, rfl, hq⟩ := z
    exact wpAny_pure hq
  · refine wpAny_bind (wpAny_pure ?_)
    simp only [Bool.false_eq_true, if_false]
    refine wpAny_bind (wpAny_mono one (fun r s' z => ?_) fun _ _ e => e)
    obtain ⟨v, rfl, hq⟩ := z
    exact wpAny_pure hq
end

abbrev noX : XK := fun _ _ _ => False
section
variable {X : Cx} {W : WX} {a b : Expr} {ma mb : EM PV} {pos : Pos} {C : Str} {F : FM} {Ca fa : Addr} {fd : FuncData} {ps : List Str} {k : Nat}
/-- the own == of the instances at x and y -/
def rOwnX (X : Cx) (Ca : Addr) (neg : Bool) (F : FM) : R2 := fun x y H Q => ∃ a dx fs b dy gs, x = .ref a ∧ y = .ref b ∧ H a = some (.ins Ca dx fs) ∧ H b = some (.ins Ca dy gs) ∧
  spD X.K X.mg 2 F [x, y] H (fun z H' => ∃ c, z = .bl c ∧ Q (.bl (xor neg c)) H') noX
structure OwnC (K : PySem.W.Frag) (Ca fa : Addr) : Prop where
  eq : PySem.W.findIn K (.ref Ca) "__eq__" = some (some (.ref fa))
  fn : PySem.W.isFn K (.ref fa) = true
  ne : PySem.W.findIn K (.ref Ca) "__ne__" = some (some (.builtin "object.__ne__"))
  ob : PySem.W.mroIn K Ca (.type "object") = some true
  nf : PySem.W.notFirst K Ca (.ref Ca) = true
theorem own_run (G : FnOk X.prog X.w X.K X.mg X.base (L2.CX X.prog X.w) k fa fd ps (spD X.K X.mg 2 F)) (hb : Binds X.K fd ps []) {A : Around} {pins : List (Addr × Obj)} {σ : L2.St} {H : Hp} {s : Shared} {x y : Addr} {Q : VK}
    (hr : Room k A) (e0 : Env0 X.prog X.w X.K X.mg X.base A X.stack s H) (I : Inv X pins σ H s) (h : spD X.K X.mg 2 F [.ref x, .ref y] H Q noX) :
    wpAny (model X.prog X.w) A (call (.ref fa) [.ref x, .ref y]) (EP X pins σ Q) X.xe s := by
  have hl := G.len _ _ _ _ h
  refine wpAny_call (codeAny_mono (G.run A X.stack s H ⟨[.ref x, .ref y], []⟩ [.ref x, .ref y] [.ref x, .ref y] Q noX hr e0 (by
    have := hb s [.ref x, .ref y] I.kIn (by simpa using hl)
    simpa using this) (.cons rfl (.cons rfl .nil)) h) fun r s' hq => ?_)
  cases r with
  | error e =>
    obtain ⟨_, _, _, _, _, _, _, _, _, _, _, _, h⟩ := (show L2.CX X.prog X.w X.stack H s noX e s' from hq)
    exact h.elim
  | ok fl =>
    cases fl with
    | ret w => exact I.after hq
    | next => exact False.elim hq
    | brk => exact False.elim hq
    | cont => exact False.elim hq
theorem own_eq_rc (O : OwnC X.K Ca fa) (G : FnOk X.prog X.w X.K X.mg X.base (L2.CX X.prog X.w) k fa fd ps (spD X.K X.mg 2 F)) (hb : Binds X.K fd ps []) {A : Around} {pins : List (Addr × Obj)} {σ : L2.St} {H : Hp} {s : Shared} {x y dx dy : Addr} {fs gs : List (Str × V)} {Q : VK}
    (hr : Room k A) (e0 : Env0 X.prog X.w X.K X.mg X.base A X.stack s H) (I : Inv X pins σ H s) (hx : H x = some (.ins Ca dx fs)) (hy : H y = some (.ins Ca dy gs)) (h : spD X.K X.mg 2 F [.ref x, .ref y] H (fun z H' => ∃ c, z = .bl c ∧ Q (.bl c) H') noX) :
    wpAny (model X.prog X.w) A (richCompare .Eq (.ref x) (.ref y)) (fun v s' => ∃ c, v = .bool c ∧ EP X pins σ Q (.bool c) s') X.xe s := by
  obtain ⟨mA, J, _⟩ := ins_get I.hok hx
  obtain ⟨od, J, _⟩ := J.look
  obtain ⟨mB, J', _⟩ := ins_get I.hok hy
  obtain ⟨od', J', _⟩ := J'.look
  obtain ⟨m, hF⟩ := I.fr
  refine PySem.W.cmp_K (op := .Eq) (tb := .ref Ca) hr.units0 hF I.ok.mod.kin J J'.type O.nf O.eq O.fn ?_
  refine wpAny_mono (own_run G hb hr e0 I h) (fun v s' z => ?_) fun _ _ e => e
  obtain ⟨z', H', I', rz, c, ez, q⟩ := z
  subst ez
  cases (show v = Value.bool c from rz)
  exact ⟨c, rfl, .bl c, H', I', rfl, q⟩
theorem op_eqOwn (O : OwnC X.K Ca fa) (G : FnOk X.prog X.w X.K X.mg X.base (L2.CX X.prog X.w) k fa fd ps (spD X.K X.mg 2 F)) (hb : Binds X.K fd ps []) (hr : Room k X.A) : OpR X (compareOp .Eq) (rOwnX X Ca false F) := by
  intro pins s σ H x y v u Q I rx ry h
  obtain ⟨a, dx, fs, b, dy, gs, rfl, rfl, ha, hb', q⟩ := h
  cases (show v = Value.ref a from rx)
  cases (show u = Value.ref b from ry)
  show wpAny (model X.prog X.w) X.A (richCompare .Eq (.ref a) (.ref b)) (EP X pins σ Q) X.xe s
  refine wpAny_mono (own_eq_rc O G hb hr I.env0 I ha hb' (Q := Q) ?_) (fun v s' ⟨c, e, z⟩ => by subst e; exact z) fun _ _ e => e
  obtain ⟨ι, S, ps', r, rl, hn, wpx⟩ := q
  exact ⟨ι, S, ps', r, rl, hn, wp_mono wpx (fun v S' k ι' H' x e r' q' => by
    obtain ⟨c, e2, z⟩ := k ι' H' x e r' q'
    exact ⟨c, e2, by simpa using z⟩) fun _ _ _ k => k⟩
theorem op_neOwn (O : OwnC X.K Ca fa) (G : FnOk X.prog X.w X.K X.mg X.base (L2.CX X.prog X.w) k fa fd ps (spD X.K X.mg 2 F)) (hb : Binds X.K fd ps []) (hr : Room (k + 1) X.A) : OpR X (compareOp .NotEq) (rOwnX X Ca true F) := by
  intro pins s σ H x y v u Q I rx ry h
  obtain ⟨a, dx, fs, b, dy, gs, rfl, rfl, ha, hb', q⟩ := h
  cases (show v = Value.ref a from rx)
  cases (show u = Value.ref b from ry)
  show wpAny (model X.prog X.w) X.A (richCompare .NotEq (.ref a) (.ref b)) (EP X pins σ Q) X.xe s
  obtain ⟨mA, J, _⟩ := ins_get I.hok ha
  obtain ⟨od, J, _⟩ := J.look
  obtain ⟨mB, J', _⟩ := ins_get I.hok hb'
  obtain ⟨od', J', _⟩ := J'.look
  obtain ⟨m, hF⟩ := I.fr
  refine ne_K (tb := .ref Ca) hr.in1.units0 hF I.ok.mod.kin J J'.type O.nf O.ob O.ne O.eq O.fn ?_
  refine wpAny_mono (own_run G hb hr.in1 I.env0.in1 I q) (fun v s' z => ?_) fun _ _ e => e
  obtain ⟨z', H', I', rz, c, ez, q⟩ := z
  subst ez
  cases (show v = Value.bool c from rz)
  exact ⟨c, rfl, .bl _, H', I', rfl, by simpa using q⟩
end
/-! ### t[::-1] -/
section
open HT
variable {prog : Program} {w : World} {A : Around} {E : Value → Shared → Prop} {s : Shared}
theorem fm_congr {α β : Type} {f g : α → Option β} : ∀ {l : List α}, (∀ x ∈ l, f x = g x) → l.filterMap f = l.filterMap g
  | [], _ => rfl
  | a :: l, h => by
    rw [List.filterMap_cons, List.filterMap_cons, h a (by simp), fm_congr fun x hx => h x (by simp [hx])]
theorem adjust_rev (n : Nat) : Builtin.Slice.sliceAdjust none none (-1) (n : Int) = ((n : Int) - 1, -1) := by
  unfold Builtin.Slice.sliceAdjust
  simp
theorem places_rev (n : Nat) : Builtin.Slice.slicePlaces ((n : Int) - 1) (-1) (-1) = n := by
  unfold Builtin.Slice.slicePlaces
  have h1 : ¬ ((-1 : Int) > 0) := by omega
  simp only [h1, if_false]
  split
  · rw [show (- -1 : Int) = 1 by decide, Int.ediv_one]; omega
  · simp; omega
theorem sliceApplied_rev {sl : Addr} {vl vu vs : Value} {n : Nat} {Q : Int × Int × Nat → Shared → Prop} (hs : s.heap.IsSliceOf sl vl vu vs) (pl : IsPart vl none) (pu : IsPart vu none) (ps : IsPart vs (some (-1)))
    (h : Q ((n : Int) - 1, -1, n) s) : wpAny (model prog w) A (Builtin.Slice.sliceApplied (.ref sl) (pure (n : Int))) Q E s := by
  obtain ⟨os, hos, hcs, hds⟩ := id hs
  unfold Builtin.Slice.sliceApplied Builtin.Slice.sliceFields
  refine wpAny_bind (wpAny_bind (wpAny_field hos hds (x := vl) rfl (wpAny_bind (wpAny_field hos hds (x := vu) rfl (wpAny_bind (wpAny_field hos hds (x := vs) rfl (wpAny_pure ?_)))))))
  refine wpAny_bind (slicePart_ ps ?_)
  show wpAny _ _ (if ((-1 : Int) == 0) = true then _ else _) _ _ s
  rw [if_neg (by decide)]
  refine wpAny_bind (slicePart_ pl (wpAny_bind (slicePart_ pu (wpAny_bind (wpAny_pure ?_)))))
  show wpAny _ _ (match Builtin.Slice.sliceAdjust none none (-1) (n : Int) with | (lo, hi) => pure (lo, (-1 : Int), Builtin.Slice.slicePlaces lo hi (-1))) _ _ s
  rw [adjust_rev n]
  show wpAny _ _ (pure ((n : Int) - 1, (-1 : Int), Builtin.Slice.slicePlaces ((n : Int) - 1) (-1) (-1))) _ _ s
  rw [places_rev]
  exact wpAny_pure h
theorem pick_rev (xs : Array Value) : ((List.range xs.size).filterMap fun (m : Nat) => xs[(((xs.size : Int) - 1) + (m : Int) * (-1)).toNat]?).toArray = xs.toList.reverse.toArray := by
  have e : ((List.range xs.size).filterMap fun (m : Nat) => xs[(((xs.size : Int) - 1) + (m : Int) * (-1)).toNat]?) = ((List.range xs.size).map fun k => xs.size - 1 - k).filterMap (xs[·]?) := by
    rw [List.filterMap_map]
    refine fm_congr fun m hm => ?_
    have hm' := List.mem_range.mp hm
    show _ = xs[xs.size - 1 - m]?
    congr 1
    omega
  rw [e, PySem.W.krv_range, List.filterMap_reverse, PySem.W.krv_all]
theorem getItem_tuple_rev {t sl : Addr} {items : Array Value} {vl vu vs : Value} {Q : Value → Shared → Prop} (ht : IsTup s.heap t items) (hs : s.heap.IsSliceOf sl vl vu vs) (pl : IsPart vl none) (pu : IsPart vu none) (ps : IsPart vs (some (-1)))
    (h : Q (.ref s.heap.objs.size) { s with heap := s.heap.push { cls := .type "tuple", data := .seq items.toList.reverse.toArray } })
    (hsz : items.size ≤ sizeLine) : wpAny (model prog w) A (getItem (.ref t) (.ref sl)) Q E s := by
  have htake : sizeOk (.seq items.toList.reverse.toArray) := by
    show items.toList.reverse.toArray.size ≤ sizeLine
    simpa using hsz
  obtain ⟨os, hos, hcs, hds⟩ := id hs
  have hTs : s.TypeIs (.ref sl) "slice" := ⟨os, hos, hcs⟩
  unfold getItem
  try with_reducible refine wpAny_holding ?_
  first | refine wpAny_bind (wpAny_pure ?_) | skip
  refine wpAny_bind (wpAny_sequenceKey ht.typeIs (by decide) ?_)
  refine wpAny_bind (wpAny_callSpecial?_slot (name := Str.ofString "__getitem__") ht.typeIs PyProof.Rows.slot_tuple_getitem
    (wpAny_call_entry PyProof.Rows.slot_tuple_getitem ht.typeIs entry_tuple_getitem ?_ (args_tuple_getitem _ _)))
  show wpAny _ _ (Builtin.Tuple.tupleItemsOf (.ref t) >>= _) _ _ s
  refine wpAny_bind (tupleItemsOf_ ht ?_)
  refine wpAny_bind (wpAny_typeOf hTs ?_)
  rw [if_pos (by decide)]
  refine wpAny_bind (sliceApplied_rev hs pl pu ps ?_)
  have hno : ¬ ((((items.size : Int) - 1) == 0 && (-1 : Int) == 1 && items.size == items.size) = true) := by simp
  show wpAny _ _ (if (((items.size : Int) - 1) == 0 && (-1 : Int) == 1 && items.size == items.size) = true then _ else _) _ _ s
  rw [if_neg hno, pick_rev]
  first
    | exact wpAny_bind (m := Builtin.Tuple.tupleExact _) (wpAny_newObj_type (wpAny_pure ⟨_, rfl, wpAny_pure h⟩) htake)
    | exact wpAny_bind (m := Builtin.Tuple.tupleExact _) (wpAny_newObj_type (wpAny_bind (wpAny_pure (wpAny_pure ⟨_, rfl, wpAny_pure h⟩))) htake)
    | exact wpAny_bind (wpAny_bind (m := Builtin.Tuple.tupleExact _) (wpAny_newObj_type (wpAny_pure (wpAny_pure ⟨_, rfl, wpAny_pure h⟩)) htake))
    | exact wpAny_bind (wpAny_bind (m := Builtin.Tuple.tupleExact _) (wpAny_newObj_type (wpAny_pure ⟨_, rfl, wpAny_pure h⟩) htake))
end
section
variable {X : Cx} {W : WX} {e : Expr} {ma : EM PV} {pos : Pos}
def tRevA (K : PySem.W.Frag) (te : TE) : TE := fun σ H Q => te σ H fun x H1 => ∃ a xs, x = .ref a ∧ ((SqL K H1 a xs ∧ ∀ p, H1 p = none → Q (.ref p) (upd H1 p (.lst xs.reverse))) ∨ (SqT K H1 a xs ∧ ∀ p, H1 p = none → PLz.NewT H1 p xs.reverse (Q (.ref p))))
theorem pe_revA {te : TE} {k : Nat} {p1 p2 p3 : Pos} (he : PE X e te) : PE X (.Subscript e (.Slice none none (some (.UnaryOp .USub (.Constant (.int 1) k p1) p2)) p3) pos) (tRevA X.K te) := by
  refine ⟨fun pins s σ H Q I h => ?_⟩
  refine Subscript_ (thn (he.run pins s σ H _ I h) fun v s1 ⟨x, H1, I1, r1, q1⟩ => ?_)
  obtain ⟨a, xs, ex, q⟩ := q1
  subst ex
  cases r1
  have hst : PO X (some (.UnaryOp .USub (.Constant (.int 1) k p1) p2)) (tPart (tUn (rU fun i => .int (-i)) (tC (.int 1)))) := po_some (pe_un un_neg pe_int)
  refine wpAny_Slice (thn (po_none.run pins s1 σ H1 (fun o H2 => o = none ∧ H2 = H1) I1 ⟨rfl, rfl⟩) fun vl s2 ⟨l, H2, I2, pl, el, e2⟩ => ?_)
  subst el e2
  refine thn (po_none.run pins s2 σ H2 (fun o H3 => o = none ∧ H3 = H2) I2 ⟨rfl, rfl⟩) fun vu s3 ⟨u, H3, I3, pu, eu, e3⟩ => ?_
  subst eu e3
  refine thn (hst.run pins s3 σ H3 (fun o H4 => o = some (-1) ∧ H4 = H3) I3 ⟨1, rfl, -1, rfl, rfl, rfl⟩) fun vs s4 ⟨o, H4, I4, ps, eo, e4⟩ => ?_
  subst eo e4
  have I5 : Inv X pins σ H4 { s4 with heap := s4.heap.push { cls := .type "slice", data := .fields #[vl, vu, vs] } } := I4.kept (t' := s4.toks) fun b ob q => Heap.get?_push_of_some _ q
  show wpAny (model X.prog X.w) X.A (subscriptTail e (.Slice none none (some (.UnaryOp .USub (.Constant (.int 1) k p1) p2)) p3) (.ref a) (.ref s4.heap.objs.size)) (EP X pins σ Q) X.xe { s4 with heap := s4.heap.push { cls := .type "slice", data := .fields #[vl, vu, vs] } }
  rcases q with ⟨hx, q⟩ | ⟨hx, q⟩
  · obtain ⟨its, r, ht, hz⟩ := I5.list hx
    have hlen := r.length
    refine tail_any (ops := [.ref a, .ref s4.heap.objs.size]) ht.isList.typeIs (PySem.slot_list_getitem.lookup) ?_ (by with_unfolding_all rfl)
    refine wpAny_getItem_list_slice ht.isList (Heap.IsSliceOf.new _ vl vu vs) pl pu ps (by decide) ?_ (by rw [List.size_toArray]; omega)
    rw [PySem.W.krv_pick]
    refine ⟨.ref _, _, I5.laid (t' := s4.toks) (o := .lst xs.reverse) (fun b ob q => Heap.get?_push_of_some _ q) (Nat.le_refl _) ?_, rfl, q _ (I5.hok.fresh (Nat.le_refl _))⟩
    exact ⟨by rw [List.length_reverse]; exact hz, _, 0, r.reverse, Heap.get?_push_size _ rfl⟩
  · obtain ⟨its, r, ht, hz⟩ := I5.tuple hx
    have hlen := r.length
    refine tail_any (ops := [.ref a, .ref s4.heap.objs.size]) ht.typeIs (PyProof.Rows.slot_tuple_getitem.lookup) ?_ (by with_unfolding_all rfl)
    refine getItem_tuple_rev ht (Heap.IsSliceOf.new _ vl vu vs) pl pu ps ?_ (by rw [List.size_toArray]; omega)
    refine ⟨.ref _, _, I5.laid (t' := s4.toks) (o := .frz { cls := .type "tuple", data := .seq its.toArray.toList.reverse.toArray } (.tup xs.reverse)) (fun b ob q => Heap.get?_push_of_some _ q) (Nat.le_refl _) ?_, rfl, q _ (I5.hok.fresh (Nat.le_refl _)) _ rfl⟩
    exact ⟨Heap.get?_push_size _ rfl, by rw [List.length_reverse]; exact hz, _, r.reverse, ⟨_, Heap.get?_push_size _ rfl, rfl, 0, rfl⟩⟩
def revAP (p : PV) (S : Sto) : Option (PV × Sto) := match p with
  | .tup xs => some (.tup xs.reverse, S)
  | .fls xs => some (.loc S.length, S ++ [.lst xs.reverse])
  | .loc l => match S[l]? with | some (.lst xs) => some (.loc S.length, S ++ [.lst xs.reverse]) | _ => none
  | _ => none
theorem re_revA {k : Nat} {p1 p2 p3 : Pos} (he : RE X W e ma) : RE X W (.Subscript e (.Slice none none (some (.UnaryOp .USub (.Constant (.int 1) k p1) p2)) p3) pos) (unM revAP ma) := by
  refine ⟨pe_weak (pe_revA he.pe) fun σ H Q h => ?_⟩
  obtain ⟨ι, τ, S, r, ρ, pk⟩ := h
  refine ⟨ι, τ, S, r, ρ, pk.next.mono ?_⟩
  rintro x H1 ⟨p, ι1, S1, e1, r1, q1, pk1⟩
  obtain ⟨v, S', hf, k⟩ := pk_lift pk1
  unfold revAP at hf
  split at hf
  · cases hf
    obtain ⟨a, vs, rfl, h1, h2⟩ := q1
    refine ⟨a, vs, rfl, .inr ⟨h1.seq, fun p hp o ho => ?_⟩⟩
    obtain ⟨E, r4⟩ := r1.tup (ho := .frz o (.tup vs.reverse)) hp
    exact k _ _ _ E r4 ⟨p, _, rfl, .inl ⟨o, upd_same, ho⟩, h2.rev.up E⟩
  · cases hf
    obtain ⟨a, vs, rfl, h1, h2⟩ := q1
    refine ⟨a, vs, rfl, .inl ⟨h1.seq, fun p hp => ?_⟩⟩
    obtain ⟨E, r4, q4⟩ := r1.new_lst hp h2.rev
    exact k _ _ _ E r4 q4
  · split at hf
    · rename_i xs eS
      cases hf
      obtain ⟨a, rfl, h1⟩ := q1
      obtain ⟨vs, h2, h3⟩ := r1.obj _ a _ h1 eS
      refine ⟨a, vs, rfl, .inl ⟨.of h2, fun p hp => ?_⟩⟩
      obtain ⟨E, r4, q4⟩ := r1.new_lst hp h3.rev
      exact k _ _ _ E r4 q4
    · cases hf
  · cases hf
end
section
variable {X : Cx} {W : WX} {a b : Expr} {ma mb : EM PV} {pos : Pos} {C : Str} {F : FM} {Ca fa : Addr} {fd : FuncData} {ps : List Str} {k : Nat}
def ownO (neg : Bool) : PV → Sto → Out PV := fun v S => match v with | .bl c => .ok (.bl (xor neg c)) S | _ => .bad
def ownC (C : Str) (neg : Bool) (F : FM) (p q : PV) (S : Sto) : Out PV := if (isIns C "" p S && isIns C "" q S) = true then bnd (noEr (F [p, q] S)) (ownO neg) else .bad
def ownEqM (C : Str) (neg : Bool) (F : FM) (ma mb : EM PV) : EM PV := fun τ S => bnd (ma τ S) fun p S1 => bnd (mb τ S1) fun q S2 => ownC C neg F p q S2
theorem ownC_read {neg : Bool} (hm : X.mg C = some (.ref Ca)) {ι : List Addr} {H : Hp} {S : Sto} {p q : PV} {x y : V} {σ : L2.St} {Q : VK} (rs : RSt X.K X.mg ι H S) (rp : Rp X.K ι H p x) (rq : Rp X.K ι H q y) (h : Pk X W (rV X) σ Q ι H (ownC C neg F p q S)) :
    rOwnX X Ca neg F x y H Q := by
  unfold ownC at h
  split at h
  · rename_i hi
    rw [Bool.and_eq_true] at hi
    obtain ⟨ax, dx, fs, rfl, h1, _⟩ := isIns_rp hm rs rp hi.1
    obtain ⟨ay, dy, gs, rfl, h2, _⟩ := isIns_rp hm rs rq hi.2
    refine ⟨ax, dx, fs, ay, dy, gs, rfl, rfl, h1, h2, ι, S, [p, q], rs, ⟨_, _, rfl, rp, _, _, rfl, rq, rfl⟩, rfl, ?_⟩
    cases hF : F [p, q] S with
    | bad => rw [hF] at h; exact h.elim
    | er c p' S' => rw [hF] at h; exact h.elim
    | ok v S' =>
      rw [hF] at h
      simp only [noEr_ok, bnd_ok] at h
      show ∀ ι' H' x, Ext ι H ι' H' → RSt X.K X.mg ι' H' S' → Rp X.K ι' H' v x → _
      intro ι' H' z e' r' q'
      cases v with
      | bl c => exact ⟨c, q', h ι' H' _ e' r' rfl⟩
      | _ => exact h.elim
  · exact h.elim
theorem own_read {neg : Bool} (hm : X.mg C = some (.ref Ca)) (σ : L2.St) (H : Hp) (Q : VK) (h : gE X W (rV X) (ownEqM C neg F ma mb) σ H Q) : tOp (rOwnX X Ca neg F) (gE X W (rV X) ma) (gE X W (rV X) mb) σ H Q := by
  obtain ⟨ι, τ, S, r, ρ, pk⟩ := h
  refine ⟨ι, τ, S, r, ρ, pk.next.mono ?_⟩
  rintro x H1 ⟨p, ι1, S1, e1, r1, q1, pk1⟩
  refine ⟨ι1, τ, S1, r1, ρ.up e1, pk1.next.mono ?_⟩
  rintro y H2 ⟨q, ι2, S2, e2, r2, q2, pk2⟩
  exact ownC_read hm r2 (q1.up e2) q2 pk2
theorem re_eqOwn (hm : X.mg C = some (.ref Ca)) (O : OwnC X.K Ca fa) (G : FnOk X.prog X.w X.K X.mg X.base (L2.CX X.prog X.w) k fa fd ps (spD X.K X.mg 2 F)) (hb : Binds X.K fd ps []) (hr : Room k X.A) (ha : RE X W a ma) (hb' : RE X W b mb) (hmk : behindInMarks .Eq b = false := by first | exact nomark _ | rfl) : RE X W (.Compare a [.Eq] [b] pos) (ownEqM C false F ma mb) :=
  ⟨pe_weak (pe_cmpR (op_eqOwn O G hb hr) ha.pe hb'.pe hmk) (own_read hm)⟩
theorem rt_eqOwn (hm : X.mg C = some (.ref Ca)) (O : OwnC X.K Ca fa) (G : FnOk X.prog X.w X.K X.mg X.base (L2.CX X.prog X.w) k fa fd ps (spD X.K X.mg 2 F)) (hb : Binds X.K fd ps []) (hr : Room k X.A) (ha : RE X W a ma) (hb' : RE X W b mb) (hmk : behindInMarks .Eq b = false := by first | exact nomark _ | rfl) : RT X W (.Compare a [.Eq] [b] pos) (blM (ownEqM C false F ma mb)) :=
  ⟨pt_weak (pt_cmpR (op_eqOwn O G hb hr) ha.pe hb'.pe hmk) fun σ H Q h => own_read hm σ H _ (bl_read σ H Q h)⟩
theorem re_neOwn (hm : X.mg C = some (.ref Ca)) (O : OwnC X.K Ca fa) (G : FnOk X.prog X.w X.K X.mg X.base (L2.CX X.prog X.w) k fa fd ps (spD X.K X.mg 2 F)) (hb : Binds X.K fd ps []) (hr : Room (k + 1) X.A) (ha : RE X W a ma) (hb' : RE X W b mb) (hmk : behindInMarks .NotEq b = false := by first | exact nomark _ | rfl) : RE X W (.Compare a [.NotEq] [b] pos) (ownEqM C true F ma mb) :=
  ⟨pe_weak (pe_cmpR (op_neOwn O G hb hr) ha.pe hb'.pe hmk) (own_read hm)⟩
theorem rt_neOwn (hm : X.mg C = some (.ref Ca)) (O : OwnC X.K Ca fa) (G : FnOk X.prog X.w X.K X.mg X.base (L2.CX X.prog X.w) k fa fd ps (spD X.K X.mg 2 F)) (hb : Binds X.K fd ps []) (hr : Room (k + 1) X.A) (ha : RE X W a ma) (hb' : RE X W b mb) (hmk : behindInMarks .NotEq b = false := by first | exact nomark _ | rfl) : RT X W (.Compare a [.NotEq] [b] pos) (blM (ownEqM C true F ma mb)) :=
  ⟨pt_weak (pt_cmpR (op_neOwn O G hb hr) ha.pe hb'.pe hmk) fun σ H Q h => own_read hm σ H _ (bl_read σ H Q h)⟩
end
/-! ### o in [u] -/
section
open AutoSeq1 (wpAny_loadPart')
open MeetsSeq MeetsSeq2 MeetsSeq3 SeqRoads2
variable {prog : Program} {w : World} {A : Around} {E : Value → Shared → Prop} {s : Shared} {l : Addr} {u v : Value}
theorem contains_end {R : Result → Shared → Prop} {n i : Nat} {items : Array Value} (hi0 : items[i]? = none) (hl : s.heap.get? l = some { cls := .type "list", data := .seq items n }) (h : R (.ok (.ret (.bool false))) s) :
    wpAny (model prog w) A.in1 (Builtin.«list.__contains__.loop» ⟨[.ref l, v, rawInt i], []⟩) (GQ.FinOf prog w A R) (fun e s' => R (.error e) s') s := by
  obtain ⟨hp, g, d, tk, os⟩ := s
  wp_walk using wpAny_loadPart' hl
  have hi : items[((i : Nat) : Int).toNat]? = none := by simpa using hi0
  rw [hi]
  wp_walk
  exact h
theorem contains_step {R : Result → Shared → Prop} {n i : Nat} {items : Array Value} (hi0 : items[i]? = some u) (hl : s.heap.get? l = some { cls := .type "list", data := .seq items n })
    (h : wpAny (model prog w) A.in1 (eqBool u v) (fun r s' => (∃ (n' : Nat) (its : Array Value), its[i + 1]? = none ∧ s'.heap.get? l = some { cls := .type "list", data := .seq its n' }) ∧ R (.ok (.ret (.bool r))) s') (fun e s' => R (.error e) s') s) :
    wpAny (model prog w) A.in1 (Builtin.«list.__contains__.loop» ⟨[.ref l, v, rawInt i], []⟩) (GQ.FinOf prog w A R) (fun e s' => R (.error e) s') s := by
  obtain ⟨hp, g, d, tk, os⟩ := s
  wp_walk using wpAny_loadPart' hl
  have hi : items[((i : Nat) : Int).toNat]? = some u := by simpa using hi0
  rw [hi]
  refine wpAny_bind (wpAny_mono h (fun r s2 q => ?_) fun _ _ x => x)
  obtain ⟨⟨n', its, hn, h2⟩, q⟩ := q
  cases r with
  | true =>
    obtain ⟨hp2, g2, d2, tk2, os2⟩ := s2
    wp_walk
    exact q
  | false =>
    have hrec := contains_end (A := A) (prog := prog) (w := w) (R := R) (v := v) hn h2 q
    obtain ⟨hp2, g2, d2, tk2, os2⟩ := s2
    have hc : ((i : Int) + 1) = ((i + 1 : Nat) : Int) := by push_cast; rfl
    wp_walk
    rw [hc]
    exact ⟨plainId_quiet plain_contains_loop _, codeAny_builtin entry_contains_loop (by
      rw [Around.under_plainId plain_contains_loop _]
      exact hrec)⟩
theorem contains_one {Q : Bool → Shared → Prop} {n : Nat} (hl : s.heap.get? l = some { cls := .type "list", data := .seq #[u] n })
    (h : wpAny (model prog w) A.in1 (eqBool u v) (fun r s' => (∃ n' u', s'.heap.get? l = some { cls := .type "list", data := .seq #[u'] n' }) ∧ Q r s') E s) :
    wpAny (model prog w) A (compareOp .In v (.ref l)) (fun r s' => ∃ c, r = .bool c ∧ Q c s') E s := by
  refine In_slot ⟨_, hl, rfl⟩ F.slot_list_contains (GQ.call_here F.slot_list_contains ⟨_, hl, rfl⟩ F.entry_list_contains (F.args_list_contains_2 _ _) ?_)
  have hs := contains_step (A := A) (prog := prog) (w := w) (i := 0) (items := #[u]) (v := v) (R := wants (fun r s' => wpAny (model prog w) A (truthy r) (fun b s'' => ∃ c, Value.bool b = Value.bool c ∧ Q c s'') E s') E) (by rfl) hl
    (wpAny_mono h (fun r s' q => by
      obtain ⟨⟨n', u', e⟩, q⟩ := q
      exact ⟨⟨n', #[u'], by rfl, e⟩, wpAny_truthy_bool ⟨r, rfl, q⟩⟩) fun _ _ x => x)
  obtain ⟨hp, g, d, tk, os⟩ := s
  wp_walk using wpAny_loadPart' hl
  refine ⟨plainId_quiet plain_contains_loop _, codeAny_builtin entry_contains_loop ?_⟩
  rw [Around.under_plainId plain_contains_loop _]
  exact hs
end
section
variable {X : Cx} {W : WX} {a b : Expr} {ma mb : EM PV} {pos : Pos} {C : Str} {F : FM} {Ca fa : Addr} {fd : FuncData} {ps : List Str} {k : Nat}
def rInOwnX (X : Cx) (Ca : Addr) (F : FM) : R2 := fun x y H Q => ∃ a dx fs l b dy gs, x = .ref a ∧ y = .ref l ∧ H l = some (.lst [.ref b]) ∧ H a = some (.ins Ca dx fs) ∧ H b = some (.ins Ca dy gs) ∧
  (a = b → Q (.bl true) H) ∧ (a ≠ b → spD X.K X.mg 2 F [.ref b, .ref a] H (fun z H' => ∃ c, z = .bl c ∧ (∃ u, H' l = some (.lst [u])) ∧ Q (.bl c) H') noX)
theorem op_inOwn (O : OwnC X.K Ca fa) (G : FnOk X.prog X.w X.K X.mg X.base (L2.CX X.prog X.w) k fa fd ps (spD X.K X.mg 2 F)) (hb : Binds X.K fd ps []) (hr : Room (k + 1) X.A) : OpR X (compareOp .In) (rInOwnX X Ca F) := by
  intro pins s σ H x y v u Q I rx ry h
  obtain ⟨a, dx, fs, l, b, dy, gs, rfl, rfl, hl, ha, hb', q1, q2⟩ := h
  cases (show v = Value.ref a from rx)
  cases (show u = Value.ref l from ry)
  obtain ⟨z, its, n, r, e⟩ := I.lstM hl
  cases r with
  | cons r1 r2 =>
    cases r2
    cases r1
    refine wpAny_mono (contains_one (Q := fun c s' => EP X pins σ Q (.bool c) s') e.2 ?_) (fun r s' q => by obtain ⟨c, rfl, q⟩ := q; exact q) fun _ _ x => x
    by_cases hab : a = b
    · subst hab
      exact SeqAt.EqAt.same (A := X.A.in1) (s := s) (.ref a) X.prog X.w X.xe _ ⟨⟨_, _, e.2⟩, .bl true, H, I, rfl, q1 rfl⟩
    · have q := q2 hab
      refine GQ.eqBool_refG (fun e => hab e.symm) (wpAny_mono (own_eq_rc O G hb hr.in1 I.env0.in1 I hb' ha (Q := fun z H' => (∃ u, H' l = some (.lst [u])) ∧ Q z H') q) (fun v s' q => ?_) fun _ _ x => x)
      obtain ⟨c, rfl, z, H', I', rz, ⟨u, hu⟩, qz⟩ := q
      refine ⟨c, rfl, ?_, z, H', I', rz, qz⟩
      obtain ⟨z2, its2, n2, r2, e2⟩ := I'.lstM hu
      cases r2 with
      | cons r3 r4 =>
        cases r4
        exact ⟨_, _, e2.2⟩
def inOwnO (l : Nat) : PV → Sto → Out PV := fun v S => match v with | .bl c => (match S[l]? with | some (.lst [_]) => .ok (.bl c) S | _ => .bad) | _ => .bad
def inOwnC (C : Str) (F : FM) (p y : PV) (S : Sto) : Out PV := match p, y with
  | .loc i, .loc l => (match S[l]? with
    | some (.lst [.loc j]) => if (isIns C "" (.loc i) S && isIns C "" (.loc j) S) = true then (if i = j then .ok (.bl true) S else bnd (noEr (F [.loc j, .loc i] S)) (inOwnO l)) else .bad
    | _ => .bad)
  | _, _ => .bad
def inOwnM (C : Str) (F : FM) (ma mb : EM PV) : EM PV := fun τ S => bnd (ma τ S) fun p S1 => bnd (mb τ S1) fun q S2 => inOwnC C F p q S2
theorem inOwnC_read (hm : X.mg C = some (.ref Ca)) {ι : List Addr} {H : Hp} {S : Sto} {p q : PV} {x y : V} {σ : L2.St} {Q : VK} (rs : RSt X.K X.mg ι H S) (rp : Rp X.K ι H p x) (rq : Rp X.K ι H q y) (h : Pk X W (rV X) σ Q ι H (inOwnC C F p q S)) :
    rInOwnX X Ca F x y H Q := by
  unfold inOwnC at h
  split at h
  · rename_i i l
    split at h
    · rename_i j eS
      split at h
      · rename_i hi
        rw [Bool.and_eq_true] at hi
        obtain ⟨al, rfl, hl⟩ := rq
        obtain ⟨vs, h2, h3⟩ := rs.obj _ al _ hl eS
        obtain ⟨vj, r0, rfl, hj, rfl⟩ := h3
        obtain ⟨ax, dx, fs, rfl, k1, _⟩ := isIns_rp hm rs rp hi.1
        obtain ⟨ay, dy, gs, rfl, k2, _⟩ := isIns_rp hm rs hj hi.2
        refine ⟨ax, dx, fs, al, ay, dy, gs, rfl, rfl, h2, k1, k2, fun e => ?_, fun e => ?_⟩
        · subst e
          obtain ⟨a1, e1, g1⟩ := rp
          obtain ⟨a2, e2, g2⟩ := hj
          cases e1; cases e2
          have hij : i = j := by
            have hil : i < ι.length := (List.getElem?_eq_some_iff.mp g1).1
            exact (List.getElem?_inj hil rs.nd).mp (by rw [g1, g2])
          rw [if_pos hij] at h
          exact h _ _ _ .refl rs rfl
        · have hij : i ≠ j := fun hij => by
            subst hij
            obtain ⟨a1, e1, g1⟩ := rp
            obtain ⟨a2, e2, g2⟩ := hj
            cases e1; cases e2
            rw [g1] at g2
            exact e (Option.some.inj g2)
          rw [if_neg hij] at h
          refine ⟨ι, S, [.loc j, .loc i], rs, ⟨_, _, rfl, hj, _, _, rfl, rp, rfl⟩, rfl, ?_⟩
          cases hF : F [.loc j, .loc i] S with
          | bad => rw [hF] at h; exact h.elim
          | er c p' S' => rw [hF] at h; exact h.elim
          | ok v S' =>
            rw [hF] at h
            simp only [noEr_ok, bnd_ok] at h
            show ∀ ι' H' x, Ext ι H ι' H' → RSt X.K X.mg ι' H' S' → Rp X.K ι' H' v x → _
            intro ι' H' z e' r' q'
            unfold inOwnO at h
            split at h
            · rename_i c
              split at h
              rotate_left
              · exact h.elim
              rename_i u eS'
              obtain ⟨al', e3, g3⟩ := (show ∃ a', V.ref al = .ref a' ∧ ι'[l]? = some a' from (show Rp X.K ι H (.loc l) (.ref al) from ⟨al, rfl, hl⟩).up e')
              cases e3
              obtain ⟨vs', h5, h6⟩ := r'.obj _ al _ g3 eS'
              obtain ⟨u', r0', rfl, _, rfl⟩ := h6
              exact ⟨c, q', ⟨u', h5⟩, h ι' H' _ e' r' rfl⟩
            · exact h.elim
      · exact h.elim
    · exact h.elim
  · exact h.elim
theorem in_read (hm : X.mg C = some (.ref Ca)) (σ : L2.St) (H : Hp) (Q : VK) (h : gE X W (rV X) (inOwnM C F ma mb) σ H Q) : tOp (rInOwnX X Ca F) (gE X W (rV X) ma) (gE X W (rV X) mb) σ H Q := by
  obtain ⟨ι, τ, S, r, ρ, pk⟩ := h
  refine ⟨ι, τ, S, r, ρ, pk.next.mono ?_⟩
  rintro x H1 ⟨p, ι1, S1, e1, r1, q1, pk1⟩
  refine ⟨ι1, τ, S1, r1, ρ.up e1, pk1.next.mono ?_⟩
  rintro y H2 ⟨q, ι2, S2, e2, r2, q2, pk2⟩
  exact inOwnC_read hm r2 (q1.up e2) q2 pk2
theorem re_inOwn (hm : X.mg C = some (.ref Ca)) (O : OwnC X.K Ca fa) (G : FnOk X.prog X.w X.K X.mg X.base (L2.CX X.prog X.w) k fa fd ps (spD X.K X.mg 2 F)) (hb : Binds X.K fd ps []) (hr : Room (k + 1) X.A) (ha : RE X W a ma) (hb' : RE X W b mb) (hmk : behindInMarks .In b = false := by rfl) : RE X W (.Compare a [.In] [b] pos) (inOwnM C F ma mb) :=
  ⟨pe_weak (pe_cmpR (op_inOwn O G hb hr) ha.pe hb'.pe hmk) (in_read hm)⟩
end
end PL
/-! PLZE: reasoning about own comparisons and reversed parts. -/
namespace PL
open PySem PySem.Spec PyProof.Rows L2
section
variable {P : PV → Sto → Prop} {R : Str → PV → Sto → Prop} {S : Sto} {xs : List PV} {l : Nat} {τ : En}
@[simp] theorem e_ownO (neg c : Bool) (S : Sto) : ownO neg (.bl c) S = .ok (.bl (xor neg c)) S := rfl
@[simp] theorem e_ownC (C : Str) (neg : Bool) (F : FM) (p q : PV) (S : Sto) : ownC C neg F p q S = if (isIns C "" p S && isIns C "" q S) = true then bnd (noEr (F [p, q] S)) (ownO neg) else .bad := rfl
def ownE2 (C : Str) (neg : Bool) (F : FM) (p : PV) : PV → Sto → Out PV := fun q S => ownC C neg F p q S
def ownE1 (C : Str) (neg : Bool) (F : FM) (mb : EM PV) (τ : En) : PV → Sto → Out PV := fun p S => bnd (mb τ S) fun q S2 => ownC C neg F p q S2
@[simp] theorem e_ownE2 (C : Str) (neg : Bool) (F : FM) (p q : PV) (S : Sto) : ownE2 C neg F p q S = ownC C neg F p q S := rfl
@[simp] theorem e_ownE1 (C : Str) (neg : Bool) (F : FM) (mb : EM PV) (τ : En) (p : PV) (S : Sto) : ownE1 C neg F mb τ p S = bnd (mb τ S) (ownE2 C neg F p) := rfl
@[simp] theorem e_ownEqM (C : Str) (neg : Bool) (F : FM) (ma mb : EM PV) (τ : En) (S : Sto) : ownEqM C neg F ma mb τ S = bnd (ma τ S) (ownE1 C neg F mb τ) := rfl
@[simp] theorem e_inOwnO (l : Nat) (c : Bool) (S : Sto) : inOwnO l (.bl c) S = match S[l]? with | some (.lst [_]) => .ok (.bl c) S | _ => .bad := rfl
def inE2 (C : Str) (F : FM) (p : PV) : PV → Sto → Out PV := fun q S => inOwnC C F p q S
def inE1 (C : Str) (F : FM) (mb : EM PV) (τ : En) : PV → Sto → Out PV := fun p S => bnd (mb τ S) fun q S2 => inOwnC C F p q S2
@[simp] theorem e_inE2 (C : Str) (F : FM) (i l : Nat) (S : Sto) : inE2 C F (.loc i) (.loc l) S = match S[l]? with
    | some (.lst [.loc j]) => if (isIns C "" (.loc i) S && isIns C "" (.loc j) S) = true then (if i = j then .ok (.bl true) S else bnd (noEr (F [.loc j, .loc i] S)) (inOwnO l)) else .bad
    | _ => .bad := rfl
@[simp] theorem e_inE1 (C : Str) (F : FM) (mb : EM PV) (τ : En) (p : PV) (S : Sto) : inE1 C F mb τ p S = bnd (mb τ S) (inE2 C F p) := rfl
@[simp] theorem e_inOwnM (C : Str) (F : FM) (ma mb : EM PV) (τ : En) (S : Sto) : inOwnM C F ma mb τ S = bnd (ma τ S) (inE1 C F mb τ) := rfl
@[simp] theorem revAP_tup (xs : List PV) : revAP (.tup xs) S = some (.tup xs.reverse, S) := rfl
theorem revA_wp (h1 : S[l]? = some (.lst xs)) (h : ∀ n S', S'[n]? = some (.lst xs.reverse) → Keep [] S S' → S.length ≤ n → P (.loc n) S') : wp (lift (revAP (.loc l) S)) P R := by
  unfold revAP
  simp only [h1, lift_some, wp_ok]
  exact alloc_wp h
end
theorem inItems_ints (x : Int) (ys : List Int) : inItems (.int x) (ys.map PV.int) = some (decide (x ∈ ys)) := by
  unfold inItems
  rw [if_pos (by simp [flatP])]
  simp only [inV, List.map_map]
  congr 1
  induction ys with
  | nil => simp
  | cons y ys ih =>
    simp only [List.map_cons, List.any_cons, Function.comp, flatW, eqV] at ih ⊢
    rw [ih]
    by_cases h : x = y
    · subst h; simp
    · have h' : (y == x) = false := by simpa using fun z => h z.symm
      simp [h, h']
theorem inB_ints {n : Nat} {x : Int} {ys : List Int} {S : Sto} (h : S[n]? = some (.lst (ys.map PV.int))) : inB (.int x) (.loc n) S = some (decide (x ∈ ys)) := by
  unfold inB
  simp only [h]
  rw [inItems_ints]
theorem in34 {n : Nat} {x : Int} {S : Sto} (h : S[n]? = some (.lst [.int 3, .int 4])) : inB (.int x) (.loc n) S = some (decide (x = 3 ∨ x = 4)) := by
  have := inB_ints (x := x) (ys := [3, 4]) h
  simpa using this
theorem cut_mid {xs : List PV} (a b : Nat) (h : a ≤ b) (ha : a ≤ xs.length) : cutP xs (some (a : Int)) (some (b : Int)) = (xs.drop a).take (b - a) := by
  unfold cutP
  rw [HT.sIx_nat, HT.sIx_nat]
  rw [Nat.min_eq_left ha]
  by_cases hb : b ≤ xs.length
  · rw [Nat.min_eq_left hb]
  · rw [Nat.min_eq_right (by omega), List.take_of_length_le (by simp), List.take_of_length_le (by simp; omega)]
theorem swap_perm {α : Type} (xs : List α) (a : Nat) : (xs.take a ++ ((xs.drop a).take 2).reverse ++ xs.drop (a + 2)).Perm xs := by
  have h1 : xs = xs.take a ++ ((xs.drop a).take 2 ++ xs.drop (a + 2)) := by
    rw [show xs.drop (a + 2) = (xs.drop a).drop 2 by rw [List.drop_drop], List.take_append_drop, List.take_append_drop]
  conv => rhs; rw [h1]
  rw [List.append_assoc]
  exact (List.Perm.refl _).append ((List.reverse_perm _).append (.refl _))
/-! rows put otherwise -/
structure RowOk (r : Rw) : Prop where
  nm : r.All Nm
  dep : r.dep ≤ 4
  ins : ∀ q ∈ r.each, q.ins.length ≤ 5
def cntR (rs : List Rw) : Nat := (rs.map fun r => r.each.length).sum
theorem cntR_eq : ∀ rs : List Rw, (Rw.eachs rs).length = cntR rs
  | [] => rfl
  | r :: rs => by rw [Rw.eachs, List.length_append, cntR_eq rs]; simp [cntR]
theorem cntR_perm {a b : List Rw} (h : a.Perm b) : cntR a = cntR b := (h.map _).sum_nat
theorem cntR_app (a b : List Rw) : cntR (a ++ b) = cntR a + cntR b := by simp [cntR]
theorem deps_le {m : Nat} : ∀ {rs : List Rw}, (∀ r ∈ rs, r.dep ≤ m) → Rw.deps rs ≤ m
  | [], _ => Nat.zero_le _
  | r :: rs, h => by
    have h1 := h r (by simp)
    have h2 := deps_le (rs := rs) fun x hx => h x (by simp [hx])
    rw [Rw.deps]; omega
theorem mem_eachs : ∀ {rs : List Rw} {q : Rw}, q ∈ Rw.eachs rs → ∃ r ∈ rs, q ∈ r.each
  | [], q, h => by simp [Rw.eachs] at h
  | r :: rs, q, h => by
    rw [Rw.eachs, List.mem_append] at h
    rcases h with h | h
    · exact ⟨r, by simp, h⟩
    · obtain ⟨s, hs, h⟩ := mem_eachs h
      exact ⟨s, by simp [hs], h⟩
theorem NP.rowOk {ds : List Df} (p : NP ds) {d : Df} (hd : d ∈ ds) : ∀ r ∈ d.2.2, RowOk r := fun r hr => by
  obtain ⟨h1, _, h3⟩ := rows_sub d.2.2 r hr
  have := p.dep d hd
  exact ⟨Alls_iff.mp (p.nm d hd).2.2 r hr, by omega, fun q hq => p.ins d hd q (h3 q hq)⟩
theorem NP.chg {a b : List Df} {d e : Df} (p : NP (a ++ d :: b)) (h1 : e.1 = d.1) (h2 : ∀ x ∈ e.2.1, x ∈ d.2.1) (h3 : e.2.1.length ≤ d.2.1.length) (h4 : ∀ r ∈ e.2.2, RowOk r) (h5 : cntR e.2.2 ≤ cntR d.2.2) : NP (a ++ e :: b) := by
  have mem : ∀ c ∈ a ++ e :: b, c = e ∨ c ∈ a ++ d :: b := fun c hc => by
    simp only [List.mem_append, List.mem_cons] at hc ⊢
    rcases hc with h | h | h
    · exact .inr (.inl h)
    · exact .inl h
    · exact .inr (.inr (.inr h))
  have hd : d ∈ a ++ d :: b := by simp
  refine ⟨?_, ?_, ?_, ?_, ?_, ?_, ?_⟩
  · have := p.nd
    simpa [h1] using this
  · intro c hc
    rcases mem c hc with rfl | hc
    · have := p.nm d hd
      exact ⟨by rw [h1]; exact this.1, fun x hx => this.2.1 x (h2 x hx), Alls_iff.mpr fun r hr => (h4 r hr).nm⟩
    · exact p.nm c hc
  · have := p.len
    simpa using this
  · intro c hc
    rcases mem c hc with rfl | hc
    · exact deps_le fun r hr => (h4 r hr).dep
    · exact p.dep c hc
  · intro c hc
    rcases mem c hc with rfl | hc
    · have := p.cnt d hd; rw [cntR_eq] at this ⊢; omega
    · exact p.cnt c hc
  · intro c hc
    rcases mem c hc with rfl | hc
    · have := p.par d hd; omega
    · exact p.par c hc
  · intro c hc
    rcases mem c hc with rfl | hc
    · intro q hq
      obtain ⟨r, hr, hq⟩ := mem_eachs hq
      exact (h4 r hr).ins q hq
    · exact p.ins c hc
end PL
/-! PLEx: own exceptions made inside an expression, by place or by name, and what they keep. -/
namespace PLK2
open PySem PySem.HandSPX
open Sem (wp)
open Builtin
section
variable {prog : Program} {w : World} {A : Around} {E : Value → Shared → Prop} {R : Result → Shared → Prop} {h : Heap} {g : Array GenState} {d : Drawn} {t : Nat} {os : OsState}
variable {nm q : Str} {C N : Addr} {bs bm bmB : List Value} {hdct : Bool} {sn : List Str} {sub : List Value} {ab : Bool} {col : Option Bool} {dd : Option Addr} {k0 k1 k2 k3 k5 : Option Value} {B newId initId : String} {n1 : Str} {v1 : Value}
theorem new_check_kw {M : Model} (F : ExcBaseFacts B newId initId bmB) (hT : ∀ X : String, bm.contains (.type X) = bmB.contains (.type X)) {Q : Unit → Shared → Prop}
    (hC : h.get? C = some (excClassObj nm q C N bs bm hdct sn sub ab col dd k0 k1 k2 k3 k5 newId)) (hq : Q () ⟨h, g, d, t, os⟩) : wpAny M A (checkBuiltinCall newId ⟨[.ref C], [(n1, v1)]⟩) Q E ⟨h, g, d, t, os⟩ := by
  have hcont : (Value.ref C :: bm).contains (.type B) = true := by rw [List.contains_cons, hT, F.hasB, Bool.or_true]
  have hstar := F.noStar
  simp only [checkBuiltinCall, F.newKind, F.newSplit, F.newRow]
  repeat (first | refine wpAny_loadPart_at hC ?_ | (refine wpAny_isSubtype_exc hC ?_; rw [hcont]) | refine wpAny_staticBase_exc hC ?_ | refine wpAny_madeBy_exc hC ?_ | simp only [bne_self_eq_false, Bool.false_eq_true, if_false] | wp_step)
  exact hq
theorem new_make_kw (F : ExcBaseFacts B newId initId bmB) (hT : ∀ X : String, bm.contains (.type X) = bmB.contains (.type X))
    (hC : h.get? C = some (excClassObj nm q C N bs bm hdct sn sub ab col dd k0 k1 k2 k3 k5 newId))
    (hq : R (.ok (.ret (.ref (h.objs.size + 1)))) ⟨(h.push { cls := .type "tuple", data := .seq #[] }).push
      { cls := .ref C, data := .fields #[.ref h.objs.size, .none, .none, .none, .bool false, .none] }, g, d, t, os⟩) :
    codeAny (model prog w) A (.builtin newId ⟨[.ref C], [(n1, v1)]⟩) R ⟨h, g, d, t, os⟩ := by
  have hends := F.ends
  have hcB : (Value.ref C :: bm).contains (.type B) = true := by rw [List.contains_cons, hT, F.hasB, Bool.or_true]
  have hcA : (Value.ref C :: bm).contains (.type "AttributeError") = false := by rw [List.contains_cons, hT, F.noAttr]; rfl
  have hcN : (Value.ref C :: bm).contains (.type "NameError") = false := by rw [List.contains_cons, hT, F.noName]; rfl
  refine codeAny_builtinAt F.entry ?_
  unfold Builtin.«BaseException.__new__»
  refine wpAt_bind ?_
  show wpAt _ _ _ (stack >>= _) _ _ _
  refine wpAt_bind (wpAt_stack fun p below => wpAt_of_wpAny ?_)
  wp_walk
  refine wpAt_of_wpAny ?_
  rw [F.owner]
  repeat (first | with_reducible refine wpAny_madeHere_exc F.canon hC ?_ | with_reducible refine wpAny_loadPart_at hC ?_ | (with_reducible refine wpAny_isSubtype_exc hC ?_; first | rw [hcB] | rw [hcA] | rw [hcN]) | wp_step)
  show R _ _
  rw [Heap.size_push]
  exact hq
theorem type_call_kw (F : ExcBaseFacts B newId initId bmB) (hT : ∀ X : String, bm.contains (.type X) = bmB.contains (.type X)) {fI : Addr} {Q : Fin → Shared → Prop}
    (hC : h.get? C = some (excClassObj nm q C N bs bm hdct sn sub ab col dd k0 k1 k2 k3 k5 newId))
    (hi : W.Looks (model prog w) h (typeLookup (.ref C) "__init__") (some (.ref fI))) (hb : ∀ self, W.Looks (model prog w) h (bindSpecial (.ref fI) self) (.ref fI, [self]))
    (hq : codeAny (model prog w) A (.call (.ref fI) ⟨[.ref (h.objs.size + 1)], [(n1, v1)]⟩)
      (fun r s' => match r with | .ok (.ret v) => v = .none ∧ Q (.done (.ret (.ref (h.objs.size + 1)))) s' | .ok _ => False | .error e => E e s')
      ⟨(h.push (W.kdv_tup [])).push (excO C h.objs.size), g, d, t, os⟩) :
    wpAny (model prog w) A (Builtin.«type.__call__» ⟨[.ref C], [(n1, v1)]⟩) Q E ⟨h, g, d, t, os⟩ := by
  repeat (first | with_reducible refine wpAny_loadPart_at hC ?_ | with_reducible refine wpAny_madeBy_exc hC ?_ | wp_step)
  refine codeAny_call_builtin_code (Code.quiet_builtin _ F.quiet) (new_check_kw F hT hC ?_)
  refine new_make_kw F hT hC ?_
  show wpAny _ _ _ _ _ _
  have k : ∀ b o, h.get? b = some o → ((h.push (W.kdv_tup [])).push (excO C h.objs.size)).get? b = some o := fun b o e => Heap.get?_push_of_some _ (Heap.get?_push_of_some _ e)
  have hC₁ := k _ _ hC
  have hget : ((h.push (W.kdv_tup [])).push (excO C h.objs.size)).get? (h.objs.size + 1) = some (excO C h.objs.size) := by heap_get
  have hcC : (Value.ref C :: bm).contains (.ref C) = true := by simp
  have i1 := hi.keeps k
  have b1 := (hb (.ref (h.objs.size + 1))).keeps k
  unfold isInstance
  repeat (first | with_reducible refine wpAny_loadPart_at hget ?_ | (with_reducible refine wpAny_isSubtype_exc hC₁ ?_; rw [hcC]) | wp_step)
  show wpAny _ _ (typeLookup (.ref C) _) _ _ _
  refine i1.at ?_
  refine wpAny_holding (wpAny_bind (b1.at ?_))
  refine wpAny_bind (wpAny_call (codeAny_mono hq fun r s' z => ?_))
  rcases r with e | (v | _ | _ | _) <;> first | exact z | exact z.elim | skip
  obtain ⟨rfl, z⟩ := z
  first
    | exact wpAny_pure (wpAny_pure z)
    | (wp_walk; exact z)
theorem call_kw (F : ExcBaseFacts B newId initId bmB) (hT : ∀ X : String, bm.contains (.type X) = bmB.contains (.type X)) {fI : Addr}
    (hC : h.get? C = some (excClassObj nm q C N bs bm hdct sn sub ab col dd k0 k1 k2 k3 k5 newId))
    (hi : W.Looks (model prog w) h (typeLookup (.ref C) "__init__") (some (.ref fI))) (hb : ∀ self, W.Looks (model prog w) h (bindSpecial (.ref fI) self) (.ref fI, [self]))
    (hq : codeAny (model prog w) (A.under (.builtin "type.__call__" ⟨[.ref C], [(n1, v1)]⟩)) (.call (.ref fI) ⟨[.ref (h.objs.size + 1)], [(n1, v1)]⟩) (W.InitBack (h.objs.size + 1) R)
      ⟨(h.push (W.kdv_tup [])).push (excO C h.objs.size), g, d, t, os⟩) :
    codeAny (model prog w) A (.call (.ref C) ⟨[], [(n1, v1)]⟩) R ⟨h, g, d, t, os⟩ := by
  have f1 := tc_lookup
  have f2 := tc_bind (.ref C)
  have hTy : (⟨h, g, d, t, os⟩ : Shared).TypeIs (.ref C) "type" := ⟨_, hC, rfl⟩
  refine codeAny_of_tree ?_
  show wpAny _ _ (callAny (.ref C) _) _ _ _
  repeat (any_goals (first | assumption | with_reducible refine wpAny_loadPart_at hC ?_ | wp_step))
  refine ⟨rfl, ?_⟩
  refine codeAny_call_builtin_at (Code.quiet_builtin _ (by decide +kernel)) entry_typeCall (wpAny_check_type_call_sub hC (type_call_kw F hT hC hi hb ?_))
  refine codeAny_mono hq fun r s' z => ?_
  rcases r with e | (v | _ | _ | _) <;> exact z
end
end PLK2
namespace PL
open PySem PySem.Spec PyProof.Rows L2
section
variable {X : Cx} {W : WX} {e : Expr} {ma : EM PV} {p pos pos' : Pos}
/-- (an exception made).n -/
theorem pe_mkWhat {C : Addr} {t : L2.St → Hp → XK → Prop} {n : Str} (T : XfC X.K C) (hno : PySem.W.findIn X.K (.ref C) n = some none) (he : PMk X e t) (hb : attributeBase e n X.env (eval e X.env) = eval e X.env := by rfl) :
    PE X (.Attribute e n pos) (fun σ H Q => t σ H fun cls d H' => cls = .ref C ∧ ∃ (dd : Addr) (fs : List (Str × V)) (v : V), d = some dd ∧ H' dd = some (.xd fs) ∧ fs.lookup n = some v ∧ Q v H') := by
  refine ⟨fun pins s σ H Q I h => ?_⟩
  refine attr_of hb (thn (he pins s σ H _ I h) fun u s1 hh => ?_)
  obtain ⟨a, oe, vs, sI, H', cls, d, rfl, J, k, hne, ha, hz, hd, h1, na, os, ag, r, ec, dd, fs, v, ed, ea, l, q⟩ := hh
  subst ec
  subst ed
  have I' := J.kept (h' := s1.heap) (t' := s1.toks) k
  have I1 : Inv X pins σ H' s1 := ⟨I'.ok, os.trans J.os, ag, I'.base, I'.loc, I'.cell, I'.free, I'.freeC, I'.pin, I'.hok, I'.len⟩
  have hx : ObjOk X.prog X.w H' s1.heap dd (.xd fs) := I1.hok dd _ ea
  obtain ⟨mA, hns, hr⟩ := hx
  obtain ⟨od, ho, hl⟩ := lookIn_ns hns
  obtain ⟨u, hu, ru⟩ := RelO.some_of (v := v) (o := mA n) (by rw [← l]; exact hr n)
  have J1 : PySem.W.InstAt s1.heap a oe C (some od) := ⟨ha, hz.1, by unfold PySem.W.notCls; rw [hd] <;> rfl, by rw [hz.2]; exact ho⟩
  exact HandSPX.exc_get I1.kIn J1 T.ga T.gg T.exC (PySem.W.findObj_own T.hdC hno rfl (by rw [hl, hu])) (handed_of ru) ⟨v, H', I1.tok _, ru, q⟩
/-- the class called with what = .. -/
theorem pmk_oexKw {x : Str} {C fI : Addr} {k : Nat} {fd : FuncData} {kws : List Keyword} {t : TA} {g : List Value → List Value → List Value} {gV : List V → List V → List V} (T : OexC X.K C) (iC : PySem.W.findIn X.K (.ref C) "__init__" = some (some (.ref fI))) (tI : PySem.W.typeIn X.K (.ref fI) = some (.type "function"))
    (F1 : FnOk X.prog X.w X.K X.mg X.base (L2.CX X.prog X.w) k fI fd ["self", "what"] (spI X.K)) (hr : Room (k + 1) X.A) (hb : KBinds X.K fd ["self", "what"] ["what"] g gV) (hg : Gl X x) (hm : X.mg x = some (.ref C)) (hkw : PK X kws t)
    (hgV : ∀ a v, gV [a] [v] = [a, v])
    (hall : (backToKw pos (keywordEach kws X.env)).all (·.1.isSome) = true := by rfl) (hks : (backToKw pos (keywordEach kws X.env)).filterMap (·.1) = (["what"] : List Str) := by rfl)
    (hdb : (x == ("__debug__" : Str)) = false := by decide)
    (hpl : ((backTo pos (starEach [] X.env)).any (·.1) || (backToKw pos (keywordEach kws X.env)).any (·.1.isNone)) = false := by rfl) :
    PMk X (.Call (.Name x p) [] kws pos) (fun σ H Q => t σ H fun vs H1 => ∃ v, vs = [v] ∧ ∀ a, H1 a = none → spI X.K [.ref a, v] (upd H1 a (exo a C none))
      (fun v H2 => v = .non ∧ ∃ (d : Addr) (fs : List (Str × V)), H2 a = some (exo a C (some d)) ∧ H2 d = some (exd d fs) ∧ H1 d = none ∧ Q (.ref C) (some d) (upd (del H2 a) d (.xd fs))) (fun _ _ _ => False)) := by
  intro pins s σ H Q I h
  obtain ⟨nm, q, N, bs, bm, sn, sub, ab, col, dd, k0, k1, k2, k3, k5, hC, hbm⟩ := T.cls
  refine wpAny_Call_Name_kw (ld_glob I hg hm ?_ hdb)
  refine PySem.W.callWith_KW0 (h₀ := X.base) I.ok.mod.kin T.kC hall (thn (hkw.run pos pins s σ H _ I h) fun us s1 ⟨vs, H1, I1, r1, v, ev, q1⟩ => ⟨I1.kIn, ?_⟩) hpl
  subst ev
  obtain ⟨u, rfl, ru⟩ := r1.one
  rw [hks]
  show wpAny _ _ (call (.ref C) [] [("what", u)]) _ _ _
  obtain ⟨hp, g1, dr, tk, os⟩ := s1
  have hsz : hp.objs.size ≤ hp.objs.size + 1 := Nat.le_succ _
  have hn : H1 (hp.objs.size + 1) = none := I1.hok.fresh hsz
  have hq := q1 (hp.objs.size + 1) hn
  have kk : ∀ b o, hp.get? b = some o → ((hp.push (PySem.W.kdv_tup [])).push (PySem.HandSPX.excO C hp.objs.size)).get? b = some o := fun b o e => Heap.get?_push_of_some _ (Heap.get?_push_of_some _ e)
  have hget : ((hp.push (PySem.W.kdv_tup [])).push (PySem.HandSPX.excO C hp.objs.size)).get? (hp.objs.size + 1) = some (PySem.HandSPX.excO C hp.objs.size) := by heap_get
  have I2 : Inv X pins σ (upd H1 (hp.objs.size + 1) (exo (hp.objs.size + 1) C none)) ⟨(hp.push (PySem.W.kdv_tup [])).push (PySem.HandSPX.excO C hp.objs.size), g1, dr, tk, os⟩ :=
    I1.laid (t' := tk) (a := hp.objs.size + 1) (o := exo (hp.objs.size + 1) C none) (h' := (hp.push (PySem.W.kdv_tup [])).push (PySem.HandSPX.excO C hp.objs.size)) kk hsz (exo_ok hget)
  have r1' : Vals [V.ref (hp.objs.size + 1)] [Value.ref (hp.objs.size + 1)] := .cons rfl .nil
  have r2 : Vals (gV [V.ref (hp.objs.size + 1)] [v]) (g [Value.ref (hp.objs.size + 1)] [u]) := hb.rel r1' (.cons ru .nil)
  have hl : (g [Value.ref (hp.objs.size + 1)] [u]).length = (["self", "what"] : List Str).length := by
    rw [← r2.length, hgV]; rfl
  have hq' := hq
  rw [← hgV (V.ref (hp.objs.size + 1)) v] at hq'
  refine wpAny_call (PLK2.call_kw F.excBase_ValueError (fun Y => PySem.HandSPX.refsVE_contains Y bm hbm) (I1.kIn _ _ hC) (PySem.W.looks_findIn I1.kIn iC) (fun self => PySem.W.bind_fn I1.kIn self tI)
    (codeAny_mono (F1.run _ X.stack _ _ ⟨[Value.ref (hp.objs.size + 1)], [("what", u)]⟩ (g [Value.ref (hp.objs.size + 1)] [u]) _ _ (fun _ _ _ => False) (hr.make C [] [("what", u)]) (I2.env0.make C [] [("what", u)]) (hb.to _ [Value.ref (hp.objs.size + 1)] [u] I2.kIn hl) r2 hq') fun r s' hq' => ?_))
  cases r with
  | error er => exact passL pins σ _ _ er s' I2 hq'
  | ok fl =>
    cases fl with
    | ret u =>
      obtain ⟨v, H2, os2, bare2, un2, hok2, rv, ev, d, fs, ea, ed, hd1, q2⟩ := hq'
      subst ev
      obtain ⟨h2, g2, d2, t2, os'⟩ := s'
      exact ⟨rv, mk_end (raises_own T.exC T.tyC) I1 hsz kk un2 hok2 os2 bare2 ea ed hd1 q2⟩
    | next => exact False.elim hq'
    | brk => exact False.elim hq'
    | cont => exact False.elim hq'
def excWM (m : EM PV) : EM PV := fun τ S => bnd (m τ S) fun p S1 => .ok p S1
@[simp] theorem e_excWM (m : EM PV) (τ : En) (S : Sto) : excWM m τ S = m τ S := by
  unfold excWM
  cases m τ S <;> rfl
theorem exc_read {σ : L2.St} {Q : VK} {C : Addr} {x : V} {q : PV} {ι1 : List Addr} {H1 : Hp} {S1 : Sto} (ho : OexC X.K C) (na : PySem.W.findIn X.K (.ref C) "what" = some none) (r1 : RSt X.K X.mg ι1 H1 S1) (q1 : Rp X.K ι1 H1 q x) (pk1 : Pk X W (rV X) σ Q ι1 H1 (.ok q S1)) (a : Addr) (hn : H1 a = none) :
    spI X.K [.ref a, x] (upd H1 a (exo a C none)) (fun v H2 => v = .non ∧ ∃ (d : Addr) (fs : List (Str × V)), H2 a = some (exo a C (some d)) ∧ H2 d = some (exd d fs) ∧ H1 d = none ∧
      ((fun cls d H' => cls = Value.ref C ∧ ∃ (dd : Addr) (fs : List (Str × V)) (v : V), d = some dd ∧ H' dd = some (.xd fs) ∧ fs.lookup (Str.ofString "what") = some v ∧ Q v H') : XK) (.ref C) (some d) (upd (del H2 a) d (.xd fs))) (fun _ _ _ => False) := by
  refine ⟨a, C, x, rfl, ho, na, upd_same, fun dx hdx hne => ?_⟩
  have hd1 : H1 dx = none := by rw [upd_ne hne] at hdx; exact hdx
  refine ⟨rfl, dx, [("what", x)], upd_same, by rw [upd_ne hne, upd_same], hd1, ?_⟩
  rw [(del_upd hn hd1 hne).2]
  obtain ⟨E, r2⟩ := r1.tup (ho := .xd [("what", x)]) hd1
  exact ⟨rfl, dx, _, x, rfl, upd_same, by simp, pk1 _ _ _ E r2 (q1.up E)⟩
theorem re_excW {c : Str} {C fI : Addr} {fd : FuncData} {k : Nat} (T : ExT X.K X.mg c C fI) (Tx : XfC X.K C) (tI : PySem.W.typeIn X.K (.ref fI) = some (.type "function")) (F1 : FnOk X.prog X.w X.K X.mg X.base (L2.CX X.prog X.w) k fI fd ["self", "what"] (spI X.K)) (hr : Room (k + 1) X.A)
    (hb : Binds X.K fd ["self", "what"] []) (hg : Gl X c) (ha : RE X W e ma)
    (hdb : (c == ("__debug__" : Str)) = false := by decide) (he : starEach [e] X.env = (false, eval e X.env) :: starEach [] X.env := by rfl) (hpl : (backTo pos (starEach [] X.env)).any (·.1) = false := by rfl)
    (hat : attributeBase (.Call (.Name c p) [e] [] pos) "what" X.env (eval (.Call (.Name c p) [e] [] pos) X.env) = eval (.Call (.Name c p) [e] [] pos) X.env := by rfl) :
    RE X W (.Attribute (.Call (.Name c p) [e] [] pos) "what" pos') (excWM ma) := by
  refine ⟨pe_weak (pe_mkWhat Tx T.na (pmk_oex T.o T.ini tI F1 hr hb (dvs := []) .nil passL hg T.g (pa_cons ha.pe pa_nil he) hdb he hpl) hat) fun σ H Q ⟨ι, τ, S, r, ρ, pk⟩ => ?_⟩
  refine ⟨ι, τ, S, r, ρ, pk.next.mono fun x H1 ⟨q, ι1, S1, e1, r1, q1, pk1⟩ => ?_⟩
  exact ⟨by simp, fun a hn => exc_read T.o T.na r1 q1 pk1 a hn⟩
theorem re_excWKw {c : Str} {C fI : Addr} {fd : FuncData} {k : Nat} {kpos : Pos} {g : List Value → List Value → List Value} {gV : List V → List V → List V} (T : ExT X.K X.mg c C fI) (Tx : XfC X.K C) (tI : PySem.W.typeIn X.K (.ref fI) = some (.type "function")) (F1 : FnOk X.prog X.w X.K X.mg X.base (L2.CX X.prog X.w) k fI fd ["self", "what"] (spI X.K)) (hr : Room (k + 1) X.A)
    (hb : KBinds X.K fd ["self", "what"] ["what"] g gV) (hgV : ∀ a v, gV [a] [v] = [a, v]) (hg : Gl X c) (ha : RE X W e ma)
    (hall : (backToKw pos (keywordEach [⟨some "what", e, kpos⟩] X.env)).all (·.1.isSome) = true := by rfl) (hks : (backToKw pos (keywordEach [⟨some "what", e, kpos⟩] X.env)).filterMap (·.1) = (["what"] : List Str) := by rfl)
    (hdb : (c == ("__debug__" : Str)) = false := by decide)
    (hpl : ((backTo pos (starEach [] X.env)).any (·.1) || (backToKw pos (keywordEach [⟨some "what", e, kpos⟩] X.env)).any (·.1.isNone)) = false := by rfl)
    (hat : attributeBase (.Call (.Name c p) [] [⟨some "what", e, kpos⟩] pos) "what" X.env (eval (.Call (.Name c p) [] [⟨some "what", e, kpos⟩] pos) X.env) = eval (.Call (.Name c p) [] [⟨some "what", e, kpos⟩] pos) X.env := by rfl) :
    RE X W (.Attribute (.Call (.Name c p) [] [⟨some "what", e, kpos⟩] pos) "what" pos') (excWM ma) := by
  refine ⟨pe_weak (pe_mkWhat Tx T.na (pmk_oexKw T.o T.ini tI F1 hr hb hg T.g (pk_cons ha.pe pk_nil) hgV hall hks hdb hpl) hat) fun σ H Q ⟨ι, τ, S, r, ρ, pk⟩ => ?_⟩
  refine ⟨ι, τ, S, r, ρ, pk.next.mono fun x H1 ⟨q, ι1, S1, e1, r1, q1, pk1⟩ => ?_⟩
  exact ⟨x, rfl, fun a hn => exc_read T.o T.na r1 q1 pk1 a hn⟩
end
end PL
/-! PLCt: t.count(x) of flat items. -/
namespace PL
open PySem PySem.Spec PyProof.Rows L2
theorem countP_eqU {x : V} : ∀ {xs : List V} {us : List Value}, Vals xs us → xs.all flatV = true → us.countP (eqU x) = xs.countP fun y => eqV y x
  | _, _, .nil, _ => rfl
  | y :: xs, u :: us, .cons r t, f => by
    rw [List.all_cons, Bool.and_eq_true] at f
    rw [List.countP_cons, List.countP_cons, eqU_of r f.1, countP_eqU t f.2]
section
variable {X : Cx}
theorem mt_tcount : MtR X "tuple.count" (fun x xs H Q => ∃ (p : Addr) (vs : List V) (y : V), x = .ref p ∧ xs = [y] ∧ SqT X.K H p vs ∧ flatV y = true ∧ vs.all flatV = true ∧ Q (.int (vs.countP (fun z => eqV z y) : Nat)) H) := by
  intro pins s σ H x xs v us Q I rx rxs h
  obtain ⟨p, vs, y, rfl, rfl, hs, fy, fs, q⟩ := h
  cases rx
  obtain ⟨u, rfl, ru⟩ := rxs.one
  obtain ⟨its, rv, ⟨⟨cls, dd, data, sl⟩, ho, hc, n, hd⟩, hlen⟩ := I.tuple hs
  simp only at hc hd
  subst hc hd
  refine call_meets PySem.F.slot_tuple_count ⟨_, ho, rfl⟩ PySem.F.entry_tuple_count (PySem.F.args_tuple_count_2 _ _)
    (SeqAt.tuple_countAt p its.toArray n dd sl u (eqU y)) ⟨ho, fun w hw => mem_eqAt ru fy rv fs w (by simpa using hw), ?_⟩
  refine ⟨.int (vs.countP (fun z => eqV z y) : Nat), H, I.tok _, ⟨s.toks, ?_⟩, q⟩
  show Value.int ((its.toArray.toList.countP (eqU y) : Nat) : Int) s.toks = _
  rw [← countP_eqU rv fs]
end
def tcountP : OpM := fun p ps S => match p, ps with
  | .tup xs, [y] => if flatP y = true ∧ xs.all flatP = true then some (.int ((xs.countP fun z => eqV (flatW z) (flatW y) : Nat) : Int), S) else none
  | _, _ => none
theorem om_tcount {X : Cx} : MtR X "tuple.count" (gMt X tcountP) := by
  intro pins s σ H x xs v us Q I rx rxs ⟨ι, S, p, ps, w, S', rs, rp, rps, hf, k⟩
  unfold tcountP at hf
  split at hf
  · rename_i ys y
    split at hf
    · rename_i c
      cases hf
      obtain ⟨a, vs, ex, h1, h2⟩ := rp
      obtain ⟨y', rfl, h3⟩ := rpl1 rps
      obtain ⟨e1, e2⟩ := rp_flat h3 c.1
      obtain ⟨e3, e4⟩ := rpl_flat h2 c.2
      subst e1; subst e3
      refine mt_tcount pins s σ H _ _ v us Q I rx rxs ⟨a, _, _, ex, rfl, h1.seq, e2, e4, k _ _ _ .refl rs ?_⟩
      show V.int _ = V.int _
      rw [List.countP_map]
      rfl
    · cases hf
  · cases hf
/-! ### the call of a tuple's method -/
section
variable {X : Cx} {W : WX} {o e : Expr} {es : List Expr} {mo : EM PV} {mas : EM (List PV)} {apos cpos : Pos}
theorem fzT_is {pins : List (Addr × Obj)} {σ : L2.St} {H : Hp} {s : Shared} {a : Addr} {xs : List V} (I : Inv X pins σ H s) (h : FzT X.K H a xs) : s.TypeIs (.ref a) "tuple" ∧ ∃ ob, s.heap.get? a = some ob ∧ ob.dict = none := by
  rcases h with ⟨o, h, hd⟩ | ⟨o, its, n, h1, h2, hd, _⟩
  · obtain ⟨hg, _, _, _, o', h1, h2, _⟩ := (show ObjOk X.prog X.w H s.heap a (.frz o (.tup xs)) from I.hok a _ h)
    exact ⟨⟨o', h1, h2⟩, o, hg, hd⟩
  · exact ⟨⟨o, I.kIn a o h1, h2⟩, o, I.kIn a o h1, hd⟩
theorem pe_tm {id : String} {name : Str} {to : TE} {t : TA} {r : V → List V → Hp → VK → Prop} (slot : Slot "tuple" name id) (hty : typeOf (.builtin id) = pure (.type "method_descriptor")) (hm : MtR X id r) (ho : PE X o to) (ha : PA X (e :: es) t)
    (hbase : attributeBase o name X.env (eval o X.env) = eval o X.env := by rfl)
    (hfew : ((backTo cpos (starEach (e :: es) X.env)).all (fun x => !x.1) && (backToKw cpos (keywordEach [] X.env)).all (fun x => x.1.isSome)
      && decide ((e :: es).length + ([] : List Keyword).length + (if ([] : List Keyword).isEmpty then 0 else 1) < 30)) = true := by rfl)
    (hline : (apos.endLine == cpos.line) = true := by rfl) (hs : starEach (e :: es) X.env = (false, eval e X.env) :: starEach es X.env := by rfl) (hplain : (backTo cpos (starEach es X.env)).any (·.1) = false := by rfl) :
    PE X (.Call (.Attribute o name apos) (e :: es) [] cpos) (fun σ H Q => to σ H fun x H1 => (∃ a xs, x = .ref a ∧ FzT X.K H1 a xs) ∧ t σ H1 fun xs H2 => r x xs H2 Q) := by
  refine ⟨fun pins s σ H Q I h => ?_⟩
  refine wpAny_Call_method_late hbase hfew hline rfl (thn (ho.run pins s σ H _ I h) fun v s1 ⟨x, H1, I1, r1, ty, q1⟩ => ?_)
  obtain ⟨a, xs, rfl, hz⟩ := ty
  cases (show v = Value.ref a from r1)
  obtain ⟨h1, ob, h2, h3⟩ := fzT_is I1 hz
  refine ⟨"tuple", id, PySem.F.plainAttrs_tuple, slot, hty, h1, fun b e => by cases e; exact ⟨ob, h2, h3⟩, ?_⟩
  have hA := ha.run cpos pins s1 σ H1 _ I1 q1
  rw [hs] at hA ⊢
  refine Calls.callWith_builtin (by show (false || (backTo cpos (starEach es X.env)).any (·.1)) = false; rw [hplain] <;> rfl) (Calls.evalArgs_plain ?_)
  exact thn hA fun us s2 ⟨vs, H2, I2, r2, q2⟩ => hm pins s2 σ H2 (.ref a) vs _ us Q I2 rfl r2 q2
def tmM (f : OpM) (m : EM PV) (ms : EM (List PV)) : EM PV := fun τ S => bnd (m τ S) fun p S1 => match p with
  | .tup xs => bnd (ms τ S1) fun ps S2 => lift (f (.tup xs) ps S2)
  | _ => .bad
theorem re_tm {id : String} {name : Str} {f : OpM} (slot : Slot "tuple" name id) (hty : typeOf (.builtin id) = pure (.type "method_descriptor")) (hm : MtR X id (gMt X f)) (ho : RE X W o mo) (ha : RA X W (e :: es) mas)
    (hbase : attributeBase o name X.env (eval o X.env) = eval o X.env := by rfl)
    (hfew : ((backTo cpos (starEach (e :: es) X.env)).all (fun x => !x.1) && (backToKw cpos (keywordEach [] X.env)).all (fun x => x.1.isSome)
      && decide ((e :: es).length + ([] : List Keyword).length + (if ([] : List Keyword).isEmpty then 0 else 1) < 30)) = true := by rfl)
    (hline : (apos.endLine == cpos.line) = true := by rfl) (hs : starEach (e :: es) X.env = (false, eval e X.env) :: starEach es X.env := by rfl) (hplain : (backTo cpos (starEach es X.env)).any (·.1) = false := by rfl) :
    RE X W (.Call (.Attribute o name apos) (e :: es) [] cpos) (tmM f mo mas) := by
  refine ⟨pe_weak (pe_tm slot hty hm ho.pe ha.pa hbase hfew hline hs hplain) fun σ H Q h => ?_⟩
  obtain ⟨ι, τ, S, r, ρ, pk⟩ := h
  refine ⟨ι, τ, S, r, ρ, pk.next.mono ?_⟩
  rintro x H1 ⟨p, ι1, S1, e1, r1, q1, pk1⟩
  cases p with
  | tup xs =>
    have q1' := q1
    obtain ⟨a, vs, rfl, h1, h2⟩ := q1'
    refine ⟨⟨a, vs, rfl, h1⟩, ι1, τ, S1, r1, ρ.up e1, pk1.next.mono ?_⟩
    rintro ys H2 ⟨ps, ι2, S2, e2, r2, q2, pk2⟩
    obtain ⟨v, S', hf, k⟩ := pk_lift pk2
    exact ⟨ι2, S2, .tup xs, ps, v, S', r2, q1.up e2, q2, hf, k⟩
  | _ => exact pk1.elim
end
def tm2 (f : OpM) (p : PV) : List PV → Sto → Out PV := fun ps S => lift (f p ps S)
def tm1 (f : OpM) (ms : EM (List PV)) (τ : En) : PV → Sto → Out PV := fun p S1 => match p with
  | .tup xs => bnd (ms τ S1) (tm2 f (.tup xs))
  | _ => .bad
@[simp] theorem e_tm2 (f : OpM) (p : PV) (ps : List PV) (S : Sto) : tm2 f p ps S = lift (f p ps S) := rfl
@[simp] theorem e_tm1 (f : OpM) (ms : EM (List PV)) (τ : En) (xs : List PV) (S : Sto) : tm1 f ms τ (.tup xs) S = bnd (ms τ S) (tm2 f (.tup xs)) := rfl
@[simp] theorem e_tmM (f : OpM) (m : EM PV) (ms : EM (List PV)) (τ : En) (S : Sto) : tmM f m ms τ S = bnd (m τ S) (tm1 f ms τ) := rfl
end PL
/-! PLDc: dicts made of lists of pairs, keys met more than once. -/
namespace PL
open PySem PySem.Spec PyProof.Rows L2
theorem valP_put (kvs : List (Key × PV)) (k k' : Key) (v : PV) : valP (putP kvs k v) k' = if k = k' then some v else valP kvs k' := by
  by_cases hk : (kvs.any fun kv => decide (kv.1 = k)) = true
  · unfold putP
    rw [if_pos hk]
    unfold valP
    rw [List.find?_map]
    have e : ((fun kv : Key × PV => decide (kv.1 = k')) ∘ fun kv => if kv.1 = k then (kv.1, v) else kv) = fun kv => decide (kv.1 = k') := by
      funext kv
      simp only [Function.comp]
      split <;> rfl
    rw [e]
    by_cases h : k = k'
    · subst h
      rw [if_pos rfl]
      obtain ⟨x, hx, hx2⟩ := List.any_eq_true.mp hk
      cases hf : kvs.find? fun kv => decide (kv.1 = k) with
      | none => exact absurd hx2 (by simpa using List.find?_eq_none.mp hf x hx)
      | some y =>
        have hy : y.1 = k := by simpa using List.find?_some hf
        simp [hy]
    · rw [if_neg h]
      cases hf : kvs.find? fun kv => decide (kv.1 = k') with
      | none => rfl
      | some y =>
        have hy : y.1 = k' := by simpa using List.find?_some hf
        have hn : ¬ y.1 = k := fun z => h (by rw [← z, hy])
        simp [hn]
  · have hn : valP kvs k = none := by
      unfold valP
      cases hf : kvs.find? fun kv => decide (kv.1 = k) with
      | none => rfl
      | some y => exact absurd (List.any_eq_true.mpr ⟨y, List.mem_of_find?_eq_some hf, List.find?_some hf⟩) hk
    rw [putP_none hn, valP_app]
    by_cases h : k = k'
    · subst h
      rw [hn]
      simp [valP]
    · rw [if_neg h]
      have : valP [(k, v)] k' = none := by simp [valP, h]
      rw [this]
      cases valP kvs k' <;> rfl
theorem valP_merge_rev {α : Type} (f : α → Str) (g : α → PV) (x : Str) : ∀ (xs : List α) (acc : List (Key × PV)), valP (mergeP acc (xs.reverse.map fun y => ((.inr (f y) : Key), g y))) (.inr x) = ((xs.find? fun y => decide (f y = x)).map g).or (valP acc (.inr x))
  | [], acc => by simp [mergeP]
  | y :: ys, acc => by
    have e : mergeP acc ((y :: ys).reverse.map fun y => ((.inr (f y) : Key), g y)) = putP (mergeP acc (ys.reverse.map fun y => ((.inr (f y) : Key), g y))) (.inr (f y)) (g y) := by
      simp [mergeP, List.foldl_append]
    rw [e, valP_put, List.find?_cons, valP_merge_rev f g x ys acc]
    by_cases h : f y = x
    · simp [h]
    · have h1 : ¬ (Sum.inr (f y) : Key) = Sum.inr x := by simpa using h
      rw [if_neg h1]
      simp [h]
theorem fair_pl {x : Str} (h : Fair x) : Pl 0 (.str x) := h.pl 0
end PL
/-! PLSP: spoilt programs. -/
namespace PL
open PySem PySem.Spec PyProof.Rows L2
def Sm (x : Str) : Prop := Fair x ∧ x.length ≤ 9
theorem Nm.sm {x : Str} (h : Nm x) : Sm x := ⟨h.fair, by have := h.q; omega⟩
mutual
theorem Rw.All_fairs {p : Str → Prop} (hp : ∀ x, p x → Fair x) : ∀ {r : Rw}, r.All p → r.fair
  | .set x v, h => by
    refine ⟨hp x h.1, ?_⟩
    have := h.2
    cases v <;> simp only [Vl.All, Vl.fair] at this ⊢
    · exact hp _ this
    · exact ⟨hp _ this.1, hp _ this.2⟩
    · exact hp _ this
    · exact ⟨hp _ this.1, fun y hy => hp y (this.2 y hy)⟩
  | .iff x a b, h => ⟨hp x h.1, Rw.Alls_fairs hp h.2.1, Rw.Alls_fairs hp h.2.2⟩
  | .send x, h => hp x h
  | .give x, h => hp x h
theorem Rw.Alls_fairs {p : Str → Prop} (hp : ∀ x, p x → Fair x) : ∀ {rs : List Rw}, Rw.Alls p rs → Rw.fairs rs
  | [], _ => trivial
  | r :: rs, h => ⟨Rw.All_fairs hp h.1, Rw.Alls_fairs hp h.2⟩
end
mutual
theorem Rw.All_mono {p q : Str → Prop} (hp : ∀ x, p x → q x) : ∀ {r : Rw}, r.All p → r.All q
  | .set x v, h => by
    refine ⟨hp x h.1, ?_⟩
    have := h.2
    cases v <;> simp only [Vl.All] at this ⊢
    · exact hp _ this
    · exact ⟨hp _ this.1, hp _ this.2⟩
    · exact hp _ this
    · exact ⟨hp _ this.1, fun y hy => hp y (this.2 y hy)⟩
  | .iff x a b, h => ⟨hp x h.1, Rw.Alls_mono hp h.2.1, Rw.Alls_mono hp h.2.2⟩
  | .send x, h => hp x h
  | .give x, h => hp x h
theorem Rw.Alls_mono {p q : Str → Prop} (hp : ∀ x, p x → q x) : ∀ {rs : List Rw}, Rw.Alls p rs → Rw.Alls q rs
  | [], _ => trivial
  | r :: rs, h => ⟨Rw.All_mono hp h.1, Rw.Alls_mono hp h.2⟩
end
structure SP (j : Nat) (ds : List Df) : Prop where
  len : ds.length ≤ 6 + j
  nm : ∀ d ∈ ds, Sm d.1 ∧ (∀ x ∈ d.2.1, Sm x) ∧ Rw.Alls Sm d.2.2
  dep : ∀ d ∈ ds, Rw.deps d.2.2 ≤ 4
  cnt : ∀ d ∈ ds, (Rw.eachs d.2.2).length ≤ 60
  par : ∀ d ∈ ds, d.2.1.length ≤ 4
  ins : ∀ d ∈ ds, ∀ r ∈ Rw.eachs d.2.2, r.ins.length ≤ 5 + j
theorem NP.sp {ds : List Df} (p : NP ds) : SP 0 ds where
  len := p.len
  nm := fun d hd => ⟨(p.nm d hd).1.sm, fun x hx => ((p.nm d hd).2.1 x hx).sm, Rw.Alls_mono (fun _ h => h.sm) (p.nm d hd).2.2⟩
  dep := p.dep
  cnt := p.cnt
  par := p.par
  ins := p.ins
theorem SP.up {i j : Nat} {ds : List Df} (p : SP i ds) (h : i ≤ j) : SP j ds :=
  ⟨by have := p.len; omega, p.nm, p.dep, p.cnt, p.par, fun d hd r hr => by have := p.ins d hd r hr; omega⟩
theorem SP.names {j : Nat} {ds : List Df} (p : SP j ds) : ∀ d ∈ ds, ∀ x ∈ namesL d, Sm x := by
  intro d hd x hx
  rcases List.mem_append.mp hx with hx | hx
  · obtain ⟨r, hr, hx⟩ := List.mem_flatMap.mp hx
    exact ins_All (eachs_All _ (p.nm d hd).2.2 r hr) x hx
  · exact (p.nm d hd).2.1 x hx
theorem SP.fair {j : Nat} {ds : List Df} (p : SP j ds) : ∀ d ∈ ds, d.fair := fun d hd => ⟨(p.nm d hd).1.1, fun x hx => ((p.nm d hd).2.1 x hx).1, Rw.Alls_fairs (fun _ h => h.1) (p.nm d hd).2.2⟩
theorem SP.sized {j : Nat} {ds : List Df} (p : SP j ds) (hj : j ≤ 10) : Sized ds where
  len := by have := p.len; omega
  dep := fun d hd => by have := p.dep d hd; omega
  cnt := fun d hd => by have := p.cnt d hd; omega
  ins := fun d hd r hr => by have := p.ins d hd r hr; omega
  par := fun d hd => by have := p.par d hd; omega
  nms := fun d hd x hx => by have := (p.names d hd x hx).2; omega
  own := fun d hd => by have := (p.nm d hd).1.2; omega
theorem SP.pl {j : Nat} {ds : List Df} (p : SP j ds) : PlL 20 (ds.map Df.pv) := dfs_pl (m := 4) p.fair (fun d hd => p.dep d hd) (by omega)
def okB (ds : List Df) (a : Nat) (d : Df) : Bool := nmB d.1 && decide (d.1 ∉ (ds.take a).map (·.1)) && soundB (ds.map Df.hd) d
end PL
namespace K02
open PySem PySem.Spec PyProof.Rows L2 PL
def topS (i : Nat) : Stmt := PySem.Challenge.pw_codeasks_k02_no_program.main.body.getD i (.Pass ⟨0, 0, 0, 0⟩)
theorem sc_is_name : FnScope ["text", "letter"] ["text"] (defScope (topS 12)) := ⟨rfl, rfl, rfl, by decide +kernel, rfl, by decide +kernel, by decide +kernel⟩
theorem sc_each_row : FnScope ["rows", "found", "row"] ["rows"] (defScope (topS 13)) := ⟨rfl, rfl, rfl, by decide +kernel, rfl, by decide +kernel, by decide +kernel⟩
theorem sc_names_asked : FnScope ["row", "value"] ["row"] (defScope (topS 14)) := ⟨rfl, rfl, rfl, by decide +kernel, rfl, by decide +kernel, by decide +kernel⟩
theorem sc_call_of : FnScope ["row", "word", "definition", "names"] ["row"] (defScope (topS 15)) := ⟨rfl, rfl, rfl, by decide +kernel, rfl, by decide +kernel, by decide +kernel⟩
theorem sc_names_in : FnScope ["row"] ["row"] (defScope (topS 16)) := ⟨rfl, rfl, rfl, by decide +kernel, rfl, by decide +kernel, by decide +kernel⟩
theorem sc_is_sound : FnScope ["definition", "others", "every", "names", "calls", "name", "parameters", "rows", "row", "one", "called", "given"] ["definition", "others"] (defScope (topS 17)) := ⟨rfl, rfl, rfl, by decide +kernel, rfl, by decide +kernel, by decide +kernel⟩
theorem sc_Program_init : FnScope ["self", "definitions", "others", "met", "definition", "name", "parameters", "rows"] ["self", "definitions"] (defScope (inClass (topS 18) 0)) := ⟨rfl, rfl, rfl, by decide +kernel, rfl, by decide +kernel, by decide +kernel⟩
theorem sc__law_tray : FnScope ["_law_script", "_law_fold", "_law_great_here", "_law_cell", "_law_much"] ["_law_script"] (defScope (topS 20)) := ⟨rfl, rfl, rfl, by decide +kernel, rfl, by decide +kernel, by decide +kernel⟩
theorem sc__law_draw : FnScope ["_law_tray_here", "_law_many", "_law_mixed", "_law_found"] ["_law_tray_here", "_law_many"] (defScope (topS 21)) := ⟨rfl, rfl, rfl, by decide +kernel, rfl, by decide +kernel, by decide +kernel⟩
theorem sc__law_great : FnScope ["_law_tray_here", "_law_found", "_law_k"] ["_law_tray_here"] (defScope (topS 22)) := ⟨rfl, rfl, rfl, by decide +kernel, rfl, by decide +kernel, by decide +kernel⟩
theorem sc__law_name : FnScope ["_law_tray_here", "_law_used", "_law_letters", "_law_lot", "_law_letter", "_law_name_here", "_law_some", "_law_bars", "_law_words", "_law_old", "_law_at", "_law_k", "_law_one"] ["_law_tray_here", "_law_used"] (defScope (topS 23)) := ⟨rfl, rfl, rfl, by decide +kernel, rfl, by decide +kernel, by decide +kernel⟩
theorem sc__law_names : FnScope ["_law_tray_here", "_law_many", "_law_used", "_law_found", "_law_k"] ["_law_tray_here", "_law_many", "_law_used"] (defScope (topS 24)) := ⟨rfl, rfl, rfl, by decide +kernel, rfl, by decide +kernel, by decide +kernel⟩
theorem sc__law_whole : FnScope ["_law_tray_here"] ["_law_tray_here"] (defScope (topS 25)) := ⟨rfl, rfl, rfl, by decide +kernel, rfl, by decide +kernel, by decide +kernel⟩
theorem sc__law_value : FnScope ["_law_tray_here", "_law_own", "_law_heads", "_law_lot", "_law_some", "_law_value_here", "_law_k", "_law_name_here", "_law_parameters"] ["_law_tray_here", "_law_own", "_law_heads"] (defScope (topS 26)) := ⟨rfl, rfl, rfl, by decide +kernel, rfl, by decide +kernel, by decide +kernel⟩
theorem sc__law_row : FnScope ["_law_tray_here", "_law_own", "_law_heads", "_law_left", "_law_deep", "_law_lot", "_law_name_here", "_law_ones"] ["_law_tray_here", "_law_own", "_law_heads", "_law_left", "_law_deep"] (defScope (topS 27)) := ⟨rfl, rfl, rfl, by decide +kernel, rfl, by decide +kernel, by decide +kernel⟩
theorem sc__law_rows : FnScope ["_law_tray_here", "_law_own", "_law_heads", "_law_left", "_law_deep", "_law_found", "_law_k"] ["_law_tray_here", "_law_own", "_law_heads", "_law_left", "_law_deep"] (defScope (topS 28)) := ⟨rfl, rfl, rfl, by decide +kernel, rfl, by decide +kernel, by decide +kernel⟩
theorem sc__law_program : FnScope ["_law_tray_here", "_law_wide", "_law_heads", "_law_name_here", "_law_few", "_law_found", "_law_parameters", "_law_own", "_law_left", "_law_rows_here"] ["_law_tray_here", "_law_wide"] (defScope (topS 29)) := ⟨rfl, rfl, rfl, by decide +kernel, rfl, by decide +kernel, by decide +kernel⟩
theorem sc__law_each : FnScope ["_law_rows_here", "_law_found", "_law_left", "_law_row_here"] ["_law_rows_here"] (defScope (topS 30)) := ⟨rfl, rfl, rfl, by decide +kernel, rfl, by decide +kernel, by decide +kernel⟩
theorem sc__law_is_name : FnScope ["_law_text", "_law_sign"] ["_law_text"] (defScope (topS 31)) := ⟨rfl, rfl, rfl, by decide +kernel, rfl, by decide +kernel, by decide +kernel⟩
theorem sc__law_in_row : FnScope ["_law_row_here", "_law_found", "_law_calls"] ["_law_row_here"] (defScope (topS 32)) := ⟨rfl, rfl, rfl, by decide +kernel, rfl, by decide +kernel, by decide +kernel⟩
theorem sc__law_is_faulty : FnScope ["_law_some", "_law_at", "_law_heads", "_law_row_here", "_law_name_here", "_law_parameters", "_law_rows_here", "_law_names_here", "_law_calls", "_law_one", "_law_more", "_law_body"] ["_law_some", "_law_at"] (defScope (topS 33)) := ⟨rfl, rfl, rfl, by decide +kernel, rfl, by decide +kernel, by decide +kernel⟩
theorem sc__law_due : FnScope ["_law_some", "_law_faulty", "_law_at", "_law_one"] ["_law_some"] (defScope (topS 34)) := ⟨rfl, rfl, rfl, by decide +kernel, rfl, by decide +kernel, by decide +kernel⟩
theorem sc__law_bad_name : FnScope ["_law_tray_here", "_law_names_here", "_law_odd"] ["_law_tray_here", "_law_names_here"] (defScope (topS 35)) := ⟨rfl, rfl, rfl, by decide +kernel, rfl, by decide +kernel, by decide +kernel⟩
theorem sc__law_row_spoilt : FnScope ["_law_tray_here", "_law_row_here", "_law_names_here", "_law_some", "_law_word", "_law_called", "_law_given"] ["_law_tray_here", "_law_row_here", "_law_names_here"] (defScope (topS 36)) := ⟨rfl, rfl, rfl, by decide +kernel, rfl, by decide +kernel, by decide +kernel⟩
theorem sc__law_rows_spoilt : FnScope ["_law_tray_here", "_law_rows_here", "_law_names_here", "_law_at", "_law_found", "_law_row_here", "_law_ones"] ["_law_tray_here", "_law_rows_here", "_law_names_here", "_law_at"] (defScope (topS 37)) := ⟨rfl, rfl, rfl, by decide +kernel, rfl, by decide +kernel, by decide +kernel⟩
theorem sc__law_spoilt : FnScope ["_law_tray_here", "_law_some", "_law_lot", "_law_at", "_law_names_here", "_law_name_here", "_law_parameters", "_law_rows_here", "_law_one"] ["_law_tray_here", "_law_some"] (defScope (topS 38)) := ⟨rfl, rfl, rfl, by decide +kernel, rfl, by decide +kernel, by decide +kernel⟩
theorem sc__law_refused : FnScope ["_law_some", "_law_found", "e"] ["_law_some"] (defScope (topS 39)) := ⟨rfl, rfl, rfl, by decide +kernel, rfl, by decide +kernel, by decide +kernel⟩
theorem sc__law_errors_right : FnScope ["_law_many"] ["_law_many"] (defScope (topS 40)) := ⟨rfl, rfl, rfl, by decide +kernel, rfl, by decide +kernel, by decide +kernel⟩
theorem sc_law : FnScope ["_law_script", "_law_tray_here", "_law_k", "_law_some", "_law_j", "_law_due_here", "_law_handed", "_law_found"] ["_law_script"] (defScope (topS 41)) := ⟨rfl, rfl, rfl, by decide +kernel, rfl, by decide +kernel, by decide +kernel⟩
theorem sc_einit : FnScope ["self", "what"] ["self", "what"] (defScope (inClass (topS 1) 0)) := ⟨rfl, rfl, rfl, by decide +kernel, rfl, by decide +kernel, by decide +kernel⟩
theorem bo_einit : defBody (inClass (topS 1) 0) = [.Assign [.Attribute (.Name "self" ⟨5, 8, 5, 12⟩) "what" ⟨5, 8, 5, 17⟩] (.Name "what" ⟨5, 20, 5, 24⟩) ⟨5, 8, 5, 24⟩] := rfl
structure Tx (K : PySem.W.Frag) (mg : Str → Option Value) where
  t_is_name : DG K mg "is_name" (topS 12) ["text"]
  t_each_row : DG K mg "each_row" (topS 13) ["rows"]
  t_names_asked : DG K mg "names_asked" (topS 14) ["row"]
  t_call_of : DG K mg "call_of" (topS 15) ["row"]
  t_names_in : DG K mg "names_in" (topS 16) ["row"]
  t_is_sound : DG K mg "is_sound" (topS 17) ["definition", "others"]
  t_Program_init : DF K "__init__" "Program.__init__" (inClass (topS 18) 0) ["self", "definitions"]
  t__law_tray : DG K mg "_law_tray" (topS 20) ["_law_script"]
  t__law_draw : DG K mg "_law_draw" (topS 21) ["_law_tray_here", "_law_many"]
  t__law_great : DG K mg "_law_great" (topS 22) ["_law_tray_here"]
  t__law_name : DG K mg "_law_name" (topS 23) ["_law_tray_here", "_law_used"]
  t__law_names : DG K mg "_law_names" (topS 24) ["_law_tray_here", "_law_many", "_law_used"]
  t__law_whole : DG K mg "_law_whole" (topS 25) ["_law_tray_here"]
  t__law_value : DG K mg "_law_value" (topS 26) ["_law_tray_here", "_law_own", "_law_heads"]
  t__law_row : DG K mg "_law_row" (topS 27) ["_law_tray_here", "_law_own", "_law_heads", "_law_left", "_law_deep"]
  t__law_rows : DG K mg "_law_rows" (topS 28) ["_law_tray_here", "_law_own", "_law_heads", "_law_left", "_law_deep"]
  t__law_program : DG K mg "_law_program" (topS 29) ["_law_tray_here", "_law_wide"]
  t__law_each : DG K mg "_law_each" (topS 30) ["_law_rows_here"]
  t__law_is_name : DG K mg "_law_is_name" (topS 31) ["_law_text"]
  t__law_in_row : DG K mg "_law_in_row" (topS 32) ["_law_row_here"]
  t__law_is_faulty : DG K mg "_law_is_faulty" (topS 33) ["_law_some", "_law_at"]
  t__law_due : DG K mg "_law_due" (topS 34) ["_law_some"]
  t__law_bad_name : DG K mg "_law_bad_name" (topS 35) ["_law_tray_here", "_law_names_here"]
  t__law_row_spoilt : DG K mg "_law_row_spoilt" (topS 36) ["_law_tray_here", "_law_row_here", "_law_names_here"]
  t__law_rows_spoilt : DG K mg "_law_rows_spoilt" (topS 37) ["_law_tray_here", "_law_rows_here", "_law_names_here", "_law_at"]
  t__law_spoilt : DG K mg "_law_spoilt" (topS 38) ["_law_tray_here", "_law_some"]
  t__law_refused : DG K mg "_law_refused" (topS 39) ["_law_some"]
  t__law_errors_right : DG K mg "_law_errors_right" (topS 40) ["_law_many"]
  t_law : DG K mg "law" (topS 41) ["_law_script"]
  a_Program : Addr
  g_Program : mg "Program" = some (.ref a_Program)
  cl_Program : Cls K a_Program
  mk_Program : Mk K a_Program t_Program_init.a
  na_definitions_kept : NoAttr K a_Program "definitions_kept"
  k_LETTERS : Tok
  c_LETTERS : mg "LETTERS" = some (.str "abcdefghijklmnopqrstuvwxyz" k_LETTERS)
  k_MOST_LETTERS : Tok
  c_MOST_LETTERS : mg "MOST_LETTERS" = some (.int 8 k_MOST_LETTERS)
  k_MAIN : Tok
  c_MAIN : mg "MAIN" = some (.str "main" k_MAIN)
  f_einit : Addr
  d_einit : FuncData
  t_einit : Fun K "__init__" "AskError.__init__" (inClass (topS 1) 0) f_einit d_einit
  b_einit : Binds K d_einit ["self", "what"] []
  kb_einit : KBinds K d_einit ["self", "what"] ["what"] (fun us ws => match us, ws with | [u], [x0] => [u, x0] | _, _ => []) (fun us ws => match us, ws with | [u], [x0] => [u, x0] | _, _ => [])
  i_init : PySem.W.typeIn K (.ref f_einit) = some (.type "function")
  p_einit : Pos × Pos × Pos × Pos
  sc_einit : FnScope ["self", "what"] ["self", "what"] (defScope (inClass (topS 1) 0))
  bo_einit : defBody (inClass (topS 1) 0) = [.Assign [.Attribute (.Name "self" p_einit.1) "what" p_einit.2.1] (.Name "what" p_einit.2.2.1) p_einit.2.2.2]
  E_NoProgram : Addr
  x_NoProgram : ExT K mg "NoProgram" E_NoProgram f_einit
  xf_NoProgram : XfC K E_NoProgram
  ec_NoProgram : ExcC K E_NoProgram
  E_AskError : Addr
  x_AskError : ExT K mg "AskError" E_AskError f_einit
  E_NoText : Addr
  x_NoText : ExT K mg "NoText" E_NoText f_einit
  xf_NoText : XfC K E_NoText
  ec_NoText : ExcC K E_NoText
  E_NoRules : Addr
  x_NoRules : ExT K mg "NoRules" E_NoRules f_einit
  xf_NoRules : XfC K E_NoRules
  ec_NoRules : ExcC K E_NoRules
  E_NoRelation : Addr
  x_NoRelation : ExT K mg "NoRelation" E_NoRelation f_einit
  xf_NoRelation : XfC K E_NoRelation
  ec_NoRelation : ExcC K E_NoRelation
  E_NoPlace : Addr
  x_NoPlace : ExT K mg "NoPlace" E_NoPlace f_einit
  xf_NoPlace : XfC K E_NoPlace
  ec_NoPlace : ExcC K E_NoPlace
  E_NoFinding : Addr
  x_NoFinding : ExT K mg "NoFinding" E_NoFinding f_einit
  xf_NoFinding : XfC K E_NoFinding
  ec_NoFinding : ExcC K E_NoFinding
  ex_NoProgram_NoProgram : PySem.W.exmOne K (.ref E_NoProgram) (.ref E_NoProgram) = some true
  ki_NoProgram_AskError : PySem.W.kitOne K (.ref E_NoProgram) (.ref E_AskError) = some true
  ki_NoProgram_ValueError : PySem.W.kitOne K (.ref E_NoProgram) (.type "ValueError") = some true
  ki_NoProgram_NoFinding : PySem.W.kitOne K (.ref E_NoProgram) (.ref E_NoFinding) = some false
  ki_NoProgram_NoPlace : PySem.W.kitOne K (.ref E_NoProgram) (.ref E_NoPlace) = some false
  ki_NoProgram_NoRelation : PySem.W.kitOne K (.ref E_NoProgram) (.ref E_NoRelation) = some false
  ki_NoProgram_NoRules : PySem.W.kitOne K (.ref E_NoProgram) (.ref E_NoRules) = some false
  ki_NoProgram_NoText : PySem.W.kitOne K (.ref E_NoProgram) (.ref E_NoText) = some false
  n_ValueError : mg "ValueError" = none
  n_all : mg "all" = none
  n_dict : mg "dict" = none
  n_isinstance : mg "isinstance" = none
  n_len : mg "len" = none
  n_list : mg "list" = none
  n_max : mg "max" = none
  n_min : mg "min" = none
  n_range : mg "range" = none
  n_set : mg "set" = none
  n_tuple : mg "tuple" = none
noncomputable def m_is_name : FM := callS 2
      (retS (andV (chainM leP leP (cV (.int 1)) (callM (on1 lenP) (aC (vV 0) aN)) (cV (.int 8))) (callM (on1 allP) (aC (compM (seqM (vV 0)) (gN 1) yesM (binM inP (vV 1) (cV (.str "abcdefghijklmnopqrstuvwxyz"))) [1]) aN))))
noncomputable def m_each_row : Nat → FM
  | 0 => fun _ _ => .bad
  | d + 1 => callS 3
      (seqS (asgS (lstM aN) (gN 1))
      (seqS (forS (seqM (vV 0)) (gN 2) (seqS (exprS (mtM "list" appendP (vV 1) (aC (vV 2) aN)))
      (ifS (blM (binM eqP (binM getP (vV 2) (cV (.int 0))) (cV (.str "if")))) (exprS (mtM "list" extendP (vV 1) (aC (binM addP (callD (m_each_row d) (aC (binM getP (vV 2) (cV (.int 2))) aN)) (callD (m_each_row d) (aC (binM getP (vV 2) (cV (.int 3))) aN))) aN))) nopS)))
      (retS (vV 1))))
noncomputable def m_names_asked : FM := callS 2
      (seqS (ifS (blM (binM neP (binM getP (vV 0) (cV (.int 0))) (cV (.str "set")))) (retS (lstM (aC (binM getP (vV 0) (cV (.int 1))) aN))) nopS)
      (seqS (asgS (binM getP (vV 0) (cV (.int 2))) (gN 1))
      (seqS (ifS (blM (binM eqP (binM getP (vV 1) (cV (.int 0))) (cV (.str "call")))) (retS (callM (on1 listP) (aC (binM getP (vV 1) (cV (.int 2))) aN))) nopS)
      (retS (ifM (blM (binM eqP (binM getP (vV 1) (cV (.int 0))) (cV (.str "num")))) (lstM aN) (callM (on1 listP) (aC (slM (vV 1) (oS (cV (.int 1))) oN) aN)))))))
noncomputable def m_call_of : FM := callS 4
      (seqS (ifS (orM (blM (binM neP (binM getP (vV 0) (cV (.int 0))) (cV (.str "set")))) (blM (binM neP (binM getP (binM getP (vV 0) (cV (.int 2))) (cV (.int 0))) (cV (.str "call"))))) (retS (cV .non)) nopS)
      (seqS (asgS (binM getP (vV 0) (cV (.int 2))) (gT 3 (gsC (gN 1) (gsC (gN 2) (gsC (gN 3) gsN)))))
      (retS (tupM (aC (vV 2) (aC (vV 3) aN))))))
noncomputable def m_names_in : FM := callS 1
      (retS (binM addP (callD m_names_asked (aC (vV 0) aN)) (lstM (aC (binM getP (vV 0) (cV (.int 1))) aN))))
noncomputable def m_is_sound : FM := callS 12
      (seqS (asgS (vV 0) (gT 3 (gsC (gN 5) (gsC (gN 6) (gsC (gN 7) gsN)))))
      (seqS (asgS (callD (m_each_row 6) (aC (vV 7) aN)) (gN 2))
      (seqS (asgS (binM addP (comp2M (seqM (vV 2)) (gN 8) yesM (seqM (callD m_names_in (aC (vV 8) aN))) (gN 9) yesM (vV 9) [8, 9] [9]) (callM (on1 listP) (aC (vV 6) aN))) (gN 3))
      (seqS (ifS (orM (notM (truM (callM (on1 allP) (aC (compM (seqM (vV 3)) (gN 9) yesM (callD m_is_name (aC (vV 9) aN)) [9]) aN)))) (blM (binM ltP (lenSetM (vV 6)) (callM (on1 lenP) (aC (vV 6) aN))))) (retS (cV (.bl false))) nopS)
      (seqS (asgS (compM (seqM (vV 2)) (gN 8) (blM (notNM (callD m_call_of (aC (vV 8) aN)))) (callD m_call_of (aC (vV 8) aN)) [8]) (gN 4))
      (retS (callM (on1 allP) (aC (compM (seqM (vV 4)) (gT 2 (gsC (gN 10) (gsC (gN 11) gsN))) yesM (andV (binM inP (vV 10) (vV 1)) (binM eqP (callM (on1 lenP) (aC (binM dgetP (vV 1) (vV 10)) aN)) (callM (on1 lenP) (aC (vV 11) aN)))) [10, 11]) aN))))))))
noncomputable def m_Program_init : FM := callS 8
      (seqS (asgS dictM (gN 2))
      (seqS (forS (seqM (vV 1)) (gT 3 (gsC (gN 5) (gsC (gN 6) (gsC (gN 7) gsN)))) (exprS (m2M setdefP (vV 2) (vV 5) (vV 6))))
      (seqS (asgS (lstM aN) (gN 3))
      (seqS (forS (seqM (vV 1)) (gN 4) (seqS (ifS (orM (notM (truM (callD m_is_name (aC (binM getP (vV 4) (cV (.int 0))) aN)))) (orM (blM (binM inP (binM getP (vV 4) (cV (.int 0))) (vV 3))) (notM (truM (callD m_is_sound (aC (vV 4) (aC (vV 2) aN))))))) (raiseS "NoProgram" (binM getP (vV 4) (cV (.int 0)))) nopS)
      (exprS (mtM "list" appendP (vV 3) (aC (binM getP (vV 4) (cV (.int 0))) aN)))))
      (seqS (ifS (blM (binM neP (m2M get2P (vV 2) (cV (.str "main")) (tupM (aC (cV (.str "main")) aN))) (tupM aN))) (raiseS "NoProgram" (cV .non)) nopS)
      (setfS "Program" "definitions_kept" (callM (on1 listP) (aC (vV 1) aN)) (vV 0)))))))
noncomputable def m__law_tray : FM := callS 5
      (seqS (asgS (cV (.int 314159265358979)) (gN 1))
      (seqS (asgS (lstM aN) (gN 2))
      (seqS (forS (seqM (vV 0)) (gN 3) (seqS (asgS (binM modP (binM addP (binM mulP (vV 1) (cV (.int 1000003))) (vV 3)) (binM subP (binM powP (cV (.int 2)) (cV (.int 61))) (cV (.int 1)))) (gN 1))
      (seqS (asgS (callM (on2 maxP) (aC (vV 3) (aC (binM subP (cV (.int 0)) (vV 3)) aN))) (gN 4))
      (ifS (blM (binM geP (vV 4) (binM powP (cV (.int 10)) (cV (.int 18))))) (exprS (mtM "list" appendP (vV 2) (aC (binM subP (vV 4) (binM powP (cV (.int 10)) (cV (.int 18)))) aN))) nopS))))
      (retS (lstM (aC (vV 2) (aC (cV (.int 0)) (aC (vV 1) (aC (cV (.int 0)) aN)))))))))
noncomputable def m__law_draw : FM := callS 4
      (seqS (whileS (andM (blM (binM ltP (binM getP (vV 0) (cV (.int 1))) (cV (.int 2)))) (blM (binM neP (binM getP (vV 0) (cV (.int 0))) (lstM aN)))) (setS (mtM "list" popP (binM getP (vV 0) (cV (.int 0))) (aC (cV (.int 0)) aN)) (vV 0) (cV (.int 1))))
      (seqS (ifS (blM (binM geP (binM getP (vV 0) (cV (.int 1))) (cV (.int 2)))) (seqS (asgS (binM modP (binM getP (vV 0) (cV (.int 1))) (vV 1)) (gN 3))
      (seqS (setS (binM fdivP (binM getP (vV 0) (cV (.int 1))) (vV 1)) (vV 0) (cV (.int 1)))
      (retS (vV 3)))) nopS)
      (seqS (setS (binM addP (binM getP (vV 0) (cV (.int 3))) (cV (.int 1))) (vV 0) (cV (.int 3)))
      (seqS (asgS (binM modP (binM addP (binM mulP (binM addP (binM getP (vV 0) (cV (.int 2))) (cV (.int 5))) (binM powP (binM addP (binM getP (vV 0) (cV (.int 3))) (cV (.int 2))) (cV (.int 3)))) (binM mulP (cV (.int 1000003)) (binM getP (vV 0) (cV (.int 3))))) (binM subP (binM powP (cV (.int 2)) (cV (.int 61))) (cV (.int 1)))) (gN 2))
      (retS (binM modP (binM fdivP (binM modP (binM powP (vV 2) (cV (.int 5))) (binM addP (binM powP (cV (.int 10)) (cV (.int 18))) (cV (.int 9)))) (cV (.int 64))) (vV 1)))))))
noncomputable def m__law_great : FM := callS 3
      (seqS (asgS (callD m__law_draw (aC (vV 0) (aC (binM powP (cV (.int 10)) (cV (.int 14))) aN))) (gN 1))
      (seqS (forS (rng1M (cV (.int 3))) (gN 2) (asgS (binM addP (binM mulP (vV 1) (binM powP (cV (.int 10)) (cV (.int 15)))) (callD m__law_draw (aC (vV 0) (aC (binM powP (cV (.int 10)) (cV (.int 15))) aN)))) (gN 1)))
      (retS (vV 1))))
noncomputable def m__law_name : FM := callS 13
      (seqS (asgS (cV (.str "abcdefghijklmnopqrstuvwxyz")) (gN 2))
      (seqS (asgS (callD m__law_draw (aC (vV 0) (aC (cV (.int 5)) aN))) (gN 3))
      (seqS (asgS (binM getP (vV 2) (callD m__law_draw (aC (vV 0) (aC (cV (.int 26)) aN)))) (gN 4))
      (seqS (asgS (mtM "str" joinP (cV (.str "")) (aC (compM (rng1M (binM addP (cV (.int 1)) (callD m__law_draw (aC (vV 0) (aC (cV (.int 8)) aN))))) (gN 11) yesM (binM getP (vV 2) (callD m__law_draw (aC (vV 0) (aC (cV (.int 26)) aN)))) [11]) aN)) (gN 5))
      (seqS (ifS (blM (binM eqP (vV 3) (cV (.int 4)))) (seqS (asgS (lstM (aC (cV (.str "set")) (aC (cV (.str "copy")) (aC (cV (.str "add")) (aC (cV (.str "num")) (aC (cV (.str "not")) (aC (cV (.str "same")) (aC (cV (.str "sends")) (aC (cV (.str "next")) (aC (cV (.str "ends")) (aC (cV (.str "mains")) (aC (cV (.str "calls")) (aC (cV (.str "none")) aN))))))))))))) (gN 8))
      (asgS (binM getP (vV 8) (callD m__law_draw (aC (vV 0) (aC (cV (.int 12)) aN)))) (gN 5))) (ifS (andM (blM (binM gtP (vV 3) (cV (.int 0)))) (blM (binM neP (vV 1) (lstM aN)))) (seqS (asgS (binM getP (vV 1) (callD m__law_draw (aC (vV 0) (aC (callM (on1 lenP) (aC (vV 1) aN)) aN)))) (gN 9))
      (seqS (asgS (callD m__law_draw (aC (vV 0) (aC (binM addP (callM (on1 lenP) (aC (vV 9) aN)) (cV (.int 1))) aN))) (gN 10))
      (asgS (slM (binM addP (binM addP (slM (vV 9) oN (oS (vV 10))) (binM getP (lstM (aC (vV 4) (aC (vV 4) (aC (cV (.str "")) aN)))) (binM subP (vV 3) (cV (.int 1))))) (slM (vV 9) (oS (binM addP (vV 10) (binM getP (lstM (aC (cV (.int 0)) (aC (cV (.int 1)) (aC (cV (.int 1)) aN)))) (binM subP (vV 3) (cV (.int 1)))))) oN)) oN (oS (cV (.int 8)))) (gN 5)))) nopS))
      (seqS (asgS (binM addP (binM addP (binM addP (lstM (aC (vV 5) aN)) (compM (seqM (vV 2)) (gN 12) yesM (vV 12) [12])) (compM (seqM (vV 2)) (gN 12) yesM (binM mulP (vV 12) (cV (.int 3))) [12])) (compM (seqM (vV 2)) (gN 12) yesM (binM mulP (vV 12) (cV (.int 5))) [12])) (gN 6))
      (seqS (asgS (lstM (aC (cV (.str "")) (aC (cV (.str "main")) (aC (cV (.str "def")) (aC (cV (.str "end")) (aC (cV (.str "read")) (aC (cV (.str "clean")) (aC (cV (.str "call")) (aC (cV (.str "send")) (aC (cV (.str "give")) (aC (cV (.str "if")) (aC (cV (.str "else")) aN)))))))))))) (gN 7))
      (retS (binM getP (compM (seqM (vV 6)) (gN 12) (blM (binM notInP (vV 12) (binM addP (vV 1) (vV 7)))) (vV 12) [12]) (cV (.int 0)))))))))))
noncomputable def m__law_names : FM := callS 5
      (seqS (asgS (lstM aN) (gN 3))
      (seqS (forS (rng1M (vV 1)) (gN 4) (exprS (mtM "list" appendP (vV 3) (aC (callD m__law_name (aC (vV 0) (aC (binM addP (vV 2) (vV 3)) aN))) aN))))
      (retS (vV 3))))
noncomputable def m__law_whole : FM := callS 1
      (seqS (ifS (blM (binM eqP (callD m__law_draw (aC (vV 0) (aC (cV (.int 8)) aN))) (cV (.int 7)))) (retS (binM mulP (binM addP (binM mulP (callD m__law_great (aC (vV 0) aN)) (cV (.int 10))) (callD m__law_draw (aC (vV 0) (aC (cV (.int 10)) aN)))) (binM subP (cV (.int 1)) (binM mulP (cV (.int 2)) (callD m__law_draw (aC (vV 0) (aC (cV (.int 2)) aN))))))) nopS)
      (retS (binM getP (lstM (aC (cV (.int 0)) (aC (cV (.int 1)) (aC (cV (.int 5)) (aC (cV (.int 99)) (aC (cV (.int 100)) (aC (unM negP (cV (.int 1))) (aC (unM negP (cV (.int 7))) (aC (cV (.int 12)) aN))))))))) (callD m__law_draw (aC (vV 0) (aC (cV (.int 8)) aN))))))
noncomputable def m__law_value : FM := callS 9
      (seqS (asgS (callD m__law_draw (aC (vV 0) (aC (cV (.int 8)) aN))) (gN 3))
      (seqS (asgS (compM (rng1M (cV (.int 4))) (gN 6) yesM (binM getP (vV 1) (callD m__law_draw (aC (vV 0) (aC (callM (on1 lenP) (aC (vV 1) aN)) aN)))) [6]) (gN 4))
      (seqS (ifS (blM (binM gtP (vV 3) (cV (.int 5)))) (seqS (asgS (binM getP (vV 2) (callD m__law_draw (aC (vV 0) (aC (callM (on1 lenP) (aC (vV 2) aN)) aN)))) (gT 2 (gsC (gN 7) (gsC (gN 8) gsN))))
      (retS (tupM (aC (cV (.str "call")) (aC (vV 7) (aC (callM (on1 tupleP) (aC (slM (vV 4) oN (oS (callM (on1 lenP) (aC (vV 8) aN)))) aN)) aN)))))) nopS)
      (seqS (asgS (lstM (aC (tupM (aC (cV (.str "num")) (aC (callD m__law_whole (aC (vV 0) aN)) aN))) (aC (tupM (aC (cV (.str "copy")) (aC (binM getP (vV 4) (cV (.int 0))) aN))) (aC (tupM (aC (cV (.str "add")) (aC (binM getP (vV 4) (cV (.int 0))) (aC (binM getP (vV 4) (cV (.int 1))) aN)))) (aC (tupM (aC (cV (.str "read")) aN)) (aC (tupM (aC (cV (.str "clean")) (aC (binM getP (vV 4) (cV (.int 0))) aN))) aN)))))) (gN 5))
      (retS (binM getP (binM addP (vV 5) (lstM (aC (tupM (aC (cV (.str "read")) aN)) aN))) (vV 3)))))))
mutual
noncomputable def m__law_row : Nat → FM
  | 0 => fun _ _ => .bad
  | d + 1 => callS 8
      (seqS (setS (binM subP (binM getP (vV 3) (cV (.int 0))) (cV (.int 1))) (vV 3) (cV (.int 0)))
      (seqS (asgS (callD m__law_draw (aC (vV 0) (aC (cV (.int 9)) aN))) (gN 5))
      (seqS (asgS (binM getP (vV 1) (callD m__law_draw (aC (vV 0) (aC (callM (on1 lenP) (aC (vV 1) aN)) aN)))) (gN 6))
      (seqS (ifS (andM (blM (binM gtP (vV 5) (cV (.int 6)))) (blM (binM gtP (vV 4) (cV (.int 1))))) (seqS (asgS (callD (m__law_rows d) (aC (vV 0) (aC (vV 1) (aC (vV 2) (aC (vV 3) (aC (binM subP (vV 4) (cV (.int 1))) aN)))))) (gN 7))
      (retS (tupM (aC (cV (.str "if")) (aC (vV 6) (aC (vV 7) (aC (callD (m__law_rows d) (aC (vV 0) (aC (vV 1) (aC (vV 2) (aC (vV 3) (aC (binM subP (vV 4) (cV (.int 1))) aN)))))) aN))))))) nopS)
      (seqS (ifS (blM (binM ltP (vV 5) (cV (.int 5)))) (retS (tupM (aC (cV (.str "set")) (aC (vV 6) (aC (callD m__law_value (aC (vV 0) (aC (vV 1) (aC (vV 2) aN)))) aN))))) nopS)
      (retS (tupM (aC (binM getP (lstM (aC (cV (.str "send")) (aC (cV (.str "send")) (aC (cV (.str "give")) (aC (cV (.str "send")) aN))))) (callM (on2 minP) (aC (cV (.int 3)) (aC (binM subP (vV 5) (cV (.int 5))) aN)))) (aC (vV 6) aN)))))))))
noncomputable def m__law_rows : Nat → FM
  | 0 => fun _ _ => .bad
  | d + 1 => callS 7
      (seqS (asgS (lstM aN) (gN 5))
      (seqS (forS (rng1M (callD m__law_draw (aC (vV 0) (aC (cV (.int 5)) aN)))) (gN 6) (ifS (blM (binM gtP (binM getP (vV 3) (cV (.int 0))) (cV (.int 0)))) (exprS (mtM "list" appendP (vV 5) (aC (callD (m__law_row d) (aC (vV 0) (aC (vV 1) (aC (vV 2) (aC (vV 3) (aC (vV 4) aN)))))) aN))) nopS))
      (retS (callM (on1 tupleP) (aC (vV 5) aN)))))
end
noncomputable def m__law_program : FM := callS 10
      (seqS (asgS (lstM (aC (tupM (aC (cV (.str "main")) (aC (tupM aN) aN))) aN)) (gN 2))
      (seqS (forS (seqM (callD m__law_names (aC (vV 0) (aC (callD m__law_draw (aC (vV 0) (aC (binM getP (lstM (aC (cV (.int 3)) (aC (cV (.int 6)) aN))) (vV 1)) aN))) (aC (lstM aN) aN))))) (gN 3) (seqS (asgS (callM (on1 tupleP) (aC (callD m__law_names (aC (vV 0) (aC (callD m__law_draw (aC (vV 0) (aC (binM getP (lstM (aC (cV (.int 4)) (aC (cV (.int 5)) aN))) (vV 1)) aN))) (aC (lstM aN) aN)))) aN)) (gN 6))
      (exprS (mtM "list" insertP (vV 2) (aC (callD m__law_draw (aC (vV 0) (aC (binM addP (callM (on1 lenP) (aC (vV 2) aN)) (cV (.int 1))) aN))) (aC (tupM (aC (vV 3) (aC (vV 6) aN))) aN))))))
      (seqS (asgS (callD m__law_names (aC (vV 0) (aC (binM addP (cV (.int 1)) (callD m__law_draw (aC (vV 0) (aC (cV (.int 3)) aN)))) (aC (lstM aN) aN)))) (gN 4))
      (seqS (asgS (lstM aN) (gN 5))
      (seqS (forS (seqM (vV 2)) (gT 2 (gsC (gN 3) (gsC (gN 6) gsN))) (seqS (asgS (binM addP (vV 4) (callM (on1 listP) (aC (vV 6) aN))) (gN 7))
      (seqS (asgS (lstM (aC (binM getP (lstM (aC (cV (.int 10)) (aC (cV (.int 30)) aN))) (vV 1)) aN)) (gN 8))
      (seqS (asgS (binM addP (callD (m__law_rows 8) (aC (vV 0) (aC (vV 7) (aC (vV 2) (aC (vV 8) (aC (cV (.int 4)) aN)))))) (callD (m__law_rows 8) (aC (vV 0) (aC (vV 7) (aC (vV 2) (aC (vV 8) (aC (cV (.int 4)) aN))))))) (gN 9))
      (exprS (mtM "list" appendP (vV 5) (aC (tupM (aC (vV 3) (aC (vV 6) (aC (vV 9) aN)))) aN)))))))
      (retS (vV 5)))))))
noncomputable def m__law_each : FM := callS 4
      (seqS (asgS (lstM aN) (gN 1))
      (seqS (asgS (callM (on1 listP) (aC (vV 0) aN)) (gN 2))
      (seqS (whileS (blM (binM neP (vV 2) (lstM aN))) (seqS (asgS (mtM "list" popP (vV 2) (aC (cV (.int 0)) aN)) (gN 3))
      (seqS (exprS (mtM "list" appendP (vV 1) (aC (vV 3) aN)))
      (ifS (blM (binM eqP (binM getP (vV 3) (cV (.int 0))) (cV (.str "if")))) (asgS (binM addP (binM addP (callM (on1 listP) (aC (binM getP (vV 3) (cV (.int 2))) aN)) (callM (on1 listP) (aC (binM getP (vV 3) (cV (.int 3))) aN))) (vV 2)) (gN 2)) nopS))))
      (retS (vV 1)))))
noncomputable def m__law_is_name : FM := callS 2
      (retS (andV (chainM ltP ltP (cV (.int 0)) (callM (on1 lenP) (aC (vV 0) aN)) (cV (.int 9))) (binM eqP (compM (seqM (vV 0)) (gN 1) (blM (binM notInP (vV 1) (cV (.str "abcdefghijklmnopqrstuvwxyz")))) (vV 1) [1]) (lstM aN))))
noncomputable def m__law_in_row : FM := callS 3
      (seqS (asgS (lstM (aC (binM getP (vV 0) (cV (.int 1))) aN)) (gN 1))
      (seqS (asgS (lstM aN) (gN 2))
      (seqS (ifS (andM (blM (binM eqP (binM getP (vV 0) (cV (.int 0))) (cV (.str "set")))) (blM (binM eqP (binM getP (binM getP (vV 0) (cV (.int 2))) (cV (.int 0))) (cV (.str "call"))))) (seqS (exprS (mtM "list" appendP (vV 2) (aC (binM getP (vV 0) (cV (.int 2))) aN)))
      (asgS (binM addP (vV 1) (callM (on1 listP) (aC (binM getP (binM getP (vV 0) (cV (.int 2))) (cV (.int 2))) aN))) (gN 1))) (ifS (andM (blM (binM eqP (binM getP (vV 0) (cV (.int 0))) (cV (.str "set")))) (blM (binM neP (binM getP (binM getP (vV 0) (cV (.int 2))) (cV (.int 0))) (cV (.str "num"))))) (asgS (binM addP (vV 1) (callM (on1 listP) (aC (slM (binM getP (vV 0) (cV (.int 2))) (oS (cV (.int 1))) oN) aN))) (gN 1)) nopS))
      (retS (lstM (aC (vV 1) (aC (vV 2) aN)))))))
noncomputable def m__law_is_faulty : FM := callS 12
      (seqS (asgS (binM getP (vV 0) (vV 1)) (gT 3 (gsC (gN 4) (gsC (gN 5) (gsC (gN 6) gsN)))))
      (seqS (asgS (callM (on1 dictLP) (aC (compM (seqM (unM revAP (vV 0))) (gT 3 (gsC (gN 9) (gsC (gN 10) (gsC (gN 11) gsN)))) yesM (tupM (aC (vV 9) (aC (vV 10) aN))) [9, 10, 11]) aN)) (gN 2))
      (seqS (ifS (orM (notM (truM (callD m__law_is_name (aC (vV 4) aN)))) (blM (binM inP (vV 4) (compM (seqM (slM (vV 0) oN (oS (vV 1)))) (gN 9) yesM (binM getP (vV 9) (cV (.int 0))) [9])))) (retS (cV (.bl true))) nopS)
      (seqS (ifS (blM (binM neP (compM (seqM (vV 5)) (gN 9) (orM (notM (truM (callD m__law_is_name (aC (vV 9) aN)))) (blM (binM gtP (tmM tcountP (vV 5) (aC (vV 9) aN)) (cV (.int 1))))) (vV 9) [9]) (lstM aN))) (retS (cV (.bl true))) nopS)
      (seqS (forS (seqM (callD m__law_each (aC (vV 6) aN))) (gN 3) (seqS (asgLS 2 (callD m__law_in_row (aC (vV 3) aN)) (gsC (gN 7) (gsC (gN 8) gsN)))
      (seqS (ifS (blM (binM neP (compM (seqM (vV 7)) (gN 9) (notM (truM (callD m__law_is_name (aC (vV 9) aN)))) (vV 9) [9]) (lstM aN))) (retS (cV (.bl true))) nopS)
      (ifS (blM (binM neP (compM (seqM (vV 8)) (gN 9) (orM (blM (binM notInP (binM getP (vV 9) (cV (.int 1))) (vV 2))) (blM (binM neP (callM (on1 lenP) (aC (binM dgetP (vV 2) (binM getP (vV 9) (cV (.int 1)))) aN)) (callM (on1 lenP) (aC (binM getP (vV 9) (cV (.int 2))) aN))))) (vV 9) [9]) (lstM aN))) (retS (cV (.bl true))) nopS))))
      (retS (cV (.bl false))))))))
noncomputable def m__law_due : FM := callS 4
      (seqS (asgS (compM (rng1M (callM (on1 lenP) (aC (vV 0) aN))) (gN 2) (truM (callD m__law_is_faulty (aC (vV 0) (aC (vV 2) aN)))) (binM getP (binM getP (vV 0) (vV 2)) (cV (.int 0))) [2]) (gN 1))
      (seqS (ifS (blM (binM neP (vV 1) (lstM aN))) (retS (slM (vV 1) oN (oS (cV (.int 1))))) nopS)
      (retS (ifM (blM (binM neP (compM (seqM (vV 0)) (gN 3) (blM (binM eqP (slM (vV 3) oN (oS (cV (.int 2)))) (tupM (aC (cV (.str "main")) (aC (tupM aN) aN))))) (vV 3) [3]) (lstM aN))) (lstM aN) (lstM (aC (cV .non) aN))))))
noncomputable def m__law_bad_name : FM := callS 3
      (seqS (asgS (lstM (aC (cV (.str "")) (aC (cV (.str "abcdefghi")) (aC (cV (.str "Abc")) (aC (cV (.str "a1")) (aC (cV (.str "a b")) (aC (cV (.str "b-")) (aC (cV (.str "main")) (aC (cV (.str "mains")) (aC (cV (.str "A")) aN)))))))))) (gN 2))
      (retS (binM getP (binM addP (vV 2) (vV 1)) (callD m__law_draw (aC (vV 0) (aC (binM addP (cV (.int 9)) (callM (on1 lenP) (aC (vV 1) aN))) aN))))))
noncomputable def m__law_row_spoilt : FM := callS 7
      (seqS (ifS (andM (blM (binM eqP (binM getP (vV 1) (cV (.int 0))) (cV (.str "set")))) (andM (blM (binM eqP (binM getP (binM getP (vV 1) (cV (.int 2))) (cV (.int 0))) (cV (.str "call")))) (blM (binM eqP (callD m__law_draw (aC (vV 0) (aC (cV (.int 2)) aN))) (cV (.int 0)))))) (seqS (asgS (binM getP (vV 1) (cV (.int 2))) (gT 3 (gsC (gN 4) (gsC (gN 5) (gsC (gN 6) gsN)))))
      (seqS (asgS (lstM (aC (tupM (aC (vV 4) (aC (vV 5) (aC (binM addP (vV 6) (tupM (aC (cV (.str "a")) aN))) aN)))) (aC (tupM (aC (vV 4) (aC (vV 5) (aC (slM (vV 6) (oS (cV (.int 1))) oN) aN)))) (aC (tupM (aC (vV 4) (aC (callD m__law_bad_name (aC (vV 0) (aC (vV 2) aN))) (aC (vV 6) aN)))) aN)))) (gN 3))
      (retS (tupM (aC (binM getP (vV 1) (cV (.int 0))) (aC (binM getP (vV 1) (cV (.int 1))) (aC (binM getP (vV 3) (callD m__law_draw (aC (vV 0) (aC (cV (.int 3)) aN)))) aN))))))) nopS)
      (seqS (ifS (andM (blM (binM eqP (binM getP (vV 1) (cV (.int 0))) (cV (.str "set")))) (andM (blM (binM inP (binM getP (binM getP (vV 1) (cV (.int 2))) (cV (.int 0))) (lstM (aC (cV (.str "copy")) (aC (cV (.str "clean")) aN))))) (blM (binM eqP (callD m__law_draw (aC (vV 0) (aC (cV (.int 2)) aN))) (cV (.int 0)))))) (retS (tupM (aC (binM getP (vV 1) (cV (.int 0))) (aC (binM getP (vV 1) (cV (.int 1))) (aC (tupM (aC (binM getP (binM getP (vV 1) (cV (.int 2))) (cV (.int 0))) (aC (callD m__law_bad_name (aC (vV 0) (aC (vV 2) aN))) aN))) aN))))) nopS)
      (retS (binM addP (binM addP (slM (vV 1) oN (oS (cV (.int 1)))) (tupM (aC (callD m__law_bad_name (aC (vV 0) (aC (vV 2) aN))) aN))) (slM (vV 1) (oS (cV (.int 2))) oN)))))
noncomputable def m__law_rows_spoilt : Nat → FM
  | 0 => fun _ _ => .bad
  | d + 1 => callS 7
      (seqS (asgS (lstM aN) (gN 4))
      (seqS (forS (seqM (vV 1)) (gN 5) (seqS (setS (binM subP (binM getP (vV 3) (cV (.int 0))) (cV (.int 1))) (vV 3) (cV (.int 0)))
      (seqS (ifS (blM (binM eqP (binM getP (vV 3) (cV (.int 0))) (unM negP (cV (.int 1))))) (asgS (callD m__law_row_spoilt (aC (vV 0) (aC (vV 5) (aC (vV 2) aN)))) (gN 5)) nopS)
      (seqS (ifS (blM (binM eqP (binM getP (vV 5) (cV (.int 0))) (cV (.str "if")))) (seqS (asgS (callD (m__law_rows_spoilt d) (aC (vV 0) (aC (binM getP (vV 5) (cV (.int 2))) (aC (vV 2) (aC (vV 3) aN))))) (gN 6))
      (asgS (tupM (aC (binM getP (vV 5) (cV (.int 0))) (aC (binM getP (vV 5) (cV (.int 1))) (aC (vV 6) (aC (callD (m__law_rows_spoilt d) (aC (vV 0) (aC (binM getP (vV 5) (cV (.int 3))) (aC (vV 2) (aC (vV 3) aN))))) aN))))) (gN 5))) nopS)
      (exprS (mtM "list" appendP (vV 4) (aC (vV 5) aN)))))))
      (retS (callM (on1 tupleP) (aC (vV 4) aN)))))
noncomputable def m__law_spoilt : FM := callS 9
      (seqS (asgS (callD m__law_draw (aC (vV 0) (aC (cV (.int 9)) aN))) (gN 2))
      (seqS (asgS (callD m__law_draw (aC (vV 0) (aC (binM addP (callM (on1 lenP) (aC (vV 1) aN)) (cV (.int 1))) aN))) (gN 3))
      (seqS (asgS (compM (seqM (vV 1)) (gN 8) yesM (binM getP (vV 8) (cV (.int 0))) [8]) (gN 4))
      (seqS (ifS (orM (blM (binM eqP (vV 3) (callM (on1 lenP) (aC (vV 1) aN)))) (blM (binM eqP (vV 2) (cV (.int 0))))) (retS (binM addP (slM (vV 1) oN (oS (vV 3))) (slM (vV 1) (oS (binM addP (vV 3) (cV (.int 1)))) oN))) nopS)
      (seqS (asgS (binM getP (vV 1) (vV 3)) (gT 3 (gsC (gN 5) (gsC (gN 6) (gsC (gN 7) gsN)))))
      (seqS (ifS (andM (blM (binM eqP (vV 2) (cV (.int 1)))) (blM (binM ltP (callM (on1 lenP) (aC (vV 1) aN)) (cV (.int 6))))) (retS (binM addP (binM addP (slM (vV 1) oN (oS (vV 3))) (lstM (aC (binM getP (vV 1) (vV 3)) aN))) (slM (vV 1) (oS (vV 3)) oN))) nopS)
      (seqS (ifS (blM (binM eqP (vV 2) (cV (.int 2)))) (asgS (callD m__law_bad_name (aC (vV 0) (aC (vV 4) aN))) (gN 5)) nopS)
      (seqS (ifS (blM (binM eqP (vV 2) (cV (.int 3)))) (asgS (binM addP (slM (vV 6) oN (oS (cV (.int 3)))) (slM (vV 6) oN (oS (cV (.int 1))))) (gN 6)) nopS)
      (seqS (ifS (blM (binM eqP (vV 2) (cV (.int 4)))) (asgS (binM getP (lstM (aC (slM (vV 6) (oS (cV (.int 1))) oN) (aC (binM addP (slM (vV 6) oN (oS (cV (.int 3)))) (tupM (aC (cV (.str "b")) aN))) (aC (binM addP (slM (vV 6) oN (oS (cV (.int 3)))) (tupM (aC (cV (.str "A")) aN))) aN)))) (callD m__law_draw (aC (vV 0) (aC (cV (.int 3)) aN)))) (gN 6)) nopS)
      (seqS (ifS (blM (binM gtP (vV 2) (cV (.int 4)))) (asgS (callD (m__law_rows_spoilt 6) (aC (vV 0) (aC (vV 7) (aC (vV 4) (aC (lstM (aC (callD m__law_draw (aC (vV 0) (aC (callM (on2 maxP) (aC (cV (.int 1)) (aC (callM (on1 lenP) (aC (callD m__law_each (aC (vV 7) aN)) aN)) aN))) aN))) aN)) aN))))) (gN 7)) nopS)
      (retS (binM addP (binM addP (slM (vV 1) oN (oS (vV 3))) (lstM (aC (tupM (aC (vV 5) (aC (vV 6) (aC (vV 7) aN)))) aN))) (slM (vV 1) (oS (binM addP (vV 3) (cV (.int 1)))) oN)))))))))))))
noncomputable def m__law_refused : FM := callS 3
      (seqS (asgS (cV .non) (gN 1))
      (seqS (tryS [("NoProgram", true)] (exprS (makeM "Program" m_Program_init id (aC (vV 0) aN))) fun c p => asgL 2 1 [p, .bl true, .bl true, .bl false])
      (retS (vV 1))))
noncomputable def m__law_errors_right : FM := callS 1
      (seqS (ifS (orM (blM (binM neP (excWM (tupM (aC (cV (.str "a")) (aC (vV 0) aN)))) (tupM (aC (cV (.str "a")) (aC (vV 0) aN))))) (orM (blM (binM neP (excWM (cV (.str "heads"))) (cV (.str "heads")))) (blM (binM neP (excWM (cV (.str "a"))) (cV (.str "a")))))) (retS (cV (.bl false))) nopS)
      (seqS (ifS (orM (blM (binM neP (excWM (tupM (aC (cV (.str "a")) (aC (cV (.int 1)) (aC (cV (.str "b")) (aC (cV (.int 2)) aN)))))) (tupM (aC (cV (.str "a")) (aC (cV (.int 1)) (aC (cV (.str "b")) (aC (cV (.int 2)) aN))))))) (blM (binM neP (excWM (cV (.str ""))) (cV (.str ""))))) (retS (cV (.bl false))) nopS)
      (retS (andV (isNM (excWM (cV .non))) (binM eqP (excWM (cV (.str "a"))) (cV (.str "a")))))))
noncomputable def m_law : FM := callS 8
      (seqS (asgS (callD m__law_tray (aC (vV 0) aN)) (gN 1))
      (seqS (ifS (notM (truM (callD m__law_errors_right (aC (callM (on1 lenP) (aC (vV 0) aN)) aN)))) (retS (cV (.bl false))) nopS)
      (seqS (forS (rng1M (binM addP (cV (.int 2)) (callM (on1 lenP) (aC (slM (vV 0) oN (oS (cV (.int 10)))) aN)))) (gN 2) (seqS (asgS (callD m__law_program (aC (vV 1) (aC (binM fdivP (callD m__law_draw (aC (vV 1) (aC (cV (.int 8)) aN))) (cV (.int 7))) aN))) (gN 3))
      (seqS (forS (rng1M (callD m__law_draw (aC (vV 1) (aC (cV (.int 3)) aN)))) (gN 4) (asgS (callD m__law_spoilt (aC (vV 1) (aC (vV 3) aN))) (gN 3)))
      (seqS (asgS (callD m__law_due (aC (vV 3) aN)) (gN 5))
      (seqS (asgS (callM (on1 listP) (aC (vV 3) aN)) (gN 6))
      (seqS (asgS (callD m__law_refused (aC (vV 6) aN)) (gN 7))
      (seqS (ifS (orM (blM (binM neP (vV 6) (vV 3))) (andM (blM (binM eqP (vV 5) (lstM aN))) (blM (notNM (vV 7))))) (retS (cV (.bl false))) nopS)
      (ifS (andM (blM (binM neP (vV 5) (lstM aN))) (blM (binM neP (vV 7) (binM addP (vV 5) (lstM (aC (cV (.bl true)) (aC (cV (.bl true)) (aC (cV (.bl false)) aN)))))))) (retS (cV (.bl false))) nopS))))))))
      (retS (cV (.bl true))))))
section
variable {P : Program} {w : World} {K : PySem.W.Frag} {mg : Str → Option Value} {base : Heap}
theorem ok_is_name (T : Tx K mg) : FnOk P w K mg base (L2.CX P w) 1 T.t_is_name.a T.t_is_name.d ["text"] (spD K mg 1 m_is_name) := fn_body (k := 0) T.t_is_name.F sc_is_name rfl fun cdv A outer s H Q E hr => by
    have nd := sc_is_name.nd
    have hu1 := hu_of hr
    have hu64 := hr.units
    have hu65 := hu65_of hr
    have tk := takes_of (X := cxOf (L2.CX P w) P w K mg base ["text", "letter"] "is_name" (defScope (topS 12)) T.t_is_name.a cdv A outer s H E) (E := E) rfl rfl rfl rfl
    exact (rss_one (rs_ret (re_and (re_chain og_le og_le re_int (re_callB cr_len (by rfl) T.n_len (by decide +kernel) (ra_cons (re_var 0) ra_nil)) (re_globI (by rfl) T.c_MOST_LETTERS)) (re_one (re_callB (cr_allP rfl) (by rfl) T.n_all (by decide +kernel) (ra_cons (re_lc (own := [("letter", 1)]) rfl nd (ri_seq (re_var 0)) (blkOk_by (own := [("letter", 1)]) (N := ["text", "letter"]) (sc := defScope (topS 12)) (by decide +kernel)) (fun _ _ _ _ _ => (rg_name 1 nd rfl (by first | exact .inl rfl | exact .inr rfl))) (fun _ _ _ _ _ => rts_nil) (fun _ _ _ _ _ => (re_cmp (og_in hu65) (re_var 1) (re_globS (by rfl) T.c_LETTERS))) (by decide)) ra_nil))))))
theorem ok_each_row (T : Tx K mg) : ∀ d : Nat, FnOk P w K mg base (L2.CX P w) (1 + d) T.t_each_row.a T.t_each_row.d ["rows"] (spD K mg 1 (m_each_row d))
  | 0 => fn_bad
  | d + 1 => by
   have ih_each_row := ok_each_row T d
   exact fn_body (k := 1 + d) T.t_each_row.F sc_each_row rfl fun cdv A outer s H Q E hr => by
       have nd := sc_each_row.nd
       have hu1 := hu_of hr
       have hu64 := hr.units
       have hu65 := hu65_of hr
       have tk := takes_of (X := cxOf (L2.CX P w) P w K mg base ["rows", "found", "row"] "each_row" (defScope (topS 13)) T.t_each_row.a cdv A outer s H E) (E := E) rfl rfl rfl rfl
       exact (rss_cons (rs_set 1 nd rfl (by first | exact .inl rfl | exact .inr rfl) (re_lst ra_nil))
         (rss_cons (rs_for (passes_of rfl) rfl (ri_seq (re_var 0)) (rg_name 2 nd rfl (by first | exact .inl rfl | exact .inr rfl)) (rss_cons (rs_expr (re_bm PySem.F.plainAttrs_list PySem.F.slot_list_append PySem.F.type_list_append om_append (re_var 1) (ra_cons (re_var 2) ra_nil)))
         (rss_one (rs_if (rt_cmp (og_eq hu64) (re_ix (re_var 2) re_int) re_str) (rss_one (rs_expr (re_bm PySem.F.plainAttrs_list PySem.F.slot_list_extend PySem.F.type_list_extend om_extend (re_var 1) (ra_cons (re_bin og_add (re_call ih_each_row (hr.mono (by omega)) (by rfl) T.t_each_row.g T.t_each_row.F.kp T.t_each_row.b tk (ra_cons (re_ix (re_var 2) re_int) ra_nil) (aC_len aN_len)) (re_call ih_each_row (hr.mono (by omega)) (by rfl) T.t_each_row.g T.t_each_row.F.kp T.t_each_row.b tk (ra_cons (re_ix (re_var 2) re_int) ra_nil) (aC_len aN_len))) ra_nil)))) rss_nil))))
         (rss_one (rs_ret (re_var 1)))))
theorem ok_names_asked (T : Tx K mg) : FnOk P w K mg base (L2.CX P w) 1 T.t_names_asked.a T.t_names_asked.d ["row"] (spD K mg 1 m_names_asked) := fn_body (k := 0) T.t_names_asked.F sc_names_asked rfl fun cdv A outer s H Q E hr => by
    have nd := sc_names_asked.nd
    have hu1 := hu_of hr
    have hu64 := hr.units
    have hu65 := hu65_of hr
    have tk := takes_of (X := cxOf (L2.CX P w) P w K mg base ["row", "value"] "names_asked" (defScope (topS 14)) T.t_names_asked.a cdv A outer s H E) (E := E) rfl rfl rfl rfl
    exact (rss_cons (rs_if (rt_cmp (og_ne hu64) (re_ix (re_var 0) re_int) re_str) (rss_one (rs_ret (re_lst (ra_cons (re_ix (re_var 0) re_int) ra_nil)))) rss_nil)
      (rss_cons (rs_set 1 nd rfl (by first | exact .inl rfl | exact .inr rfl) (re_ix (re_var 0) re_int))
      (rss_cons (rs_if (rt_cmp (og_eq hu64) (re_ix (re_var 1) re_int) re_str) (rss_one (rs_ret (re_callTy cr_list (by rfl) T.n_list (by decide +kernel) (ra_cons (re_ix (re_var 1) re_int) ra_nil)))) rss_nil)
      (rss_one (rs_ret (re_if (rt_cmp (og_eq hu64) (re_ix (re_var 1) re_int) re_str) (re_lst ra_nil) (re_callTy cr_list (by rfl) T.n_list (by decide +kernel) (ra_cons (re_slice (re_var 1) (ro_some re_int) ro_none) ra_nil))))))))
theorem ok_call_of (T : Tx K mg) : FnOk P w K mg base (L2.CX P w) 1 T.t_call_of.a T.t_call_of.d ["row"] (spD K mg 1 m_call_of) := fn_body (k := 0) T.t_call_of.F sc_call_of rfl fun cdv A outer s H Q E hr => by
    have nd := sc_call_of.nd
    have hu1 := hu_of hr
    have hu64 := hr.units
    have hu65 := hu65_of hr
    have tk := takes_of (X := cxOf (L2.CX P w) P w K mg base ["row", "word", "definition", "names"] "call_of" (defScope (topS 15)) T.t_call_of.a cdv A outer s H E) (E := E) rfl rfl rfl rfl
    exact (rss_cons (rs_if (rt_of (rw_or (rt_cmp (og_ne hu64) (re_ix (re_var 0) re_int) re_str) (rw_or1 (rt_cmp (og_ne hu64) (re_ix (re_ix (re_var 0) re_int) re_int) re_str)))) (rss_one (rs_ret re_non)) rss_nil)
      (rss_cons (rs_asg (re_ix (re_var 0) re_int) (rg_tup rfl (rgs_cons (rg_name 1 nd rfl (by first | exact .inl rfl | exact .inr rfl)) (rgs_cons (rg_name 2 nd rfl (by first | exact .inl rfl | exact .inr rfl)) (rgs_cons (rg_name 3 nd rfl (by first | exact .inl rfl | exact .inr rfl)) rgs_nil)))))
      (rss_one (rs_ret (re_tup (ra_cons (re_var 2) (ra_cons (re_var 3) ra_nil)))))))
theorem ok_names_in (T : Tx K mg) : FnOk P w K mg base (L2.CX P w) 2 T.t_names_in.a T.t_names_in.d ["row"] (spD K mg 1 m_names_in) := fn_body (k := 1) T.t_names_in.F sc_names_in rfl fun cdv A outer s H Q E hr => by
    have nd := sc_names_in.nd
    have hu1 := hu_of hr
    have hu64 := hr.units
    have hu65 := hu65_of hr
    have tk := takes_of (X := cxOf (L2.CX P w) P w K mg base ["row"] "names_in" (defScope (topS 16)) T.t_names_in.a cdv A outer s H E) (E := E) rfl rfl rfl rfl
    exact (rss_one (rs_ret (re_bin og_add (re_call (ok_names_asked T) (hr.mono (by omega)) (by rfl) T.t_names_asked.g T.t_names_asked.F.kp T.t_names_asked.b tk (ra_cons (re_var 0) ra_nil) (aC_len aN_len)) (re_lst (ra_cons (re_ix (re_var 0) re_int) ra_nil)))))
theorem ok_is_sound (T : Tx K mg) : FnOk P w K mg base (L2.CX P w) 8 T.t_is_sound.a T.t_is_sound.d ["definition", "others"] (spD K mg 2 m_is_sound) := fn_body (k := 7) T.t_is_sound.F sc_is_sound rfl fun cdv A outer s H Q E hr => by
    have nd := sc_is_sound.nd
    have hu1 := hu_of hr
    have hu64 := hr.units
    have hu65 := hu65_of hr
    have tk := takes_of (X := cxOf (L2.CX P w) P w K mg base ["definition", "others", "every", "names", "calls", "name", "parameters", "rows", "row", "one", "called", "given"] "is_sound" (defScope (topS 17)) T.t_is_sound.a cdv A outer s H E) (E := E) rfl rfl rfl rfl
    exact (rss_cons (rs_asg (re_var 0) (rg_tup rfl (rgs_cons (rg_name 5 nd rfl (by first | exact .inl rfl | exact .inr rfl)) (rgs_cons (rg_name 6 nd rfl (by first | exact .inl rfl | exact .inr rfl)) (rgs_cons (rg_name 7 nd rfl (by first | exact .inl rfl | exact .inr rfl)) rgs_nil)))))
      (rss_cons (rs_set 2 nd rfl (by first | exact .inl rfl | exact .inr rfl) (re_call (ok_each_row T 6) (hr.mono (by omega)) (by rfl) T.t_each_row.g T.t_each_row.F.kp T.t_each_row.b tk (ra_cons (re_var 7) ra_nil) (aC_len aN_len)))
      (rss_cons (rs_set 3 nd rfl (by first | exact .inl rfl | exact .inr rfl) (re_bin og_add (re_lc2 (own := [("row", 8), ("one", 9)]) rfl nd (ri_seq (re_var 2)) (blkOk_by (own := [("row", 8), ("one", 9)]) (N := ["definition", "others", "every", "names", "calls", "name", "parameters", "rows", "row", "one", "called", "given"]) (sc := defScope (topS 17)) (by decide +kernel)) (vs1 := [9]) (by decide) (fun _ _ _ _ _ => (rg_name 8 nd rfl (by first | exact .inl rfl | exact .inr rfl))) (fun _ _ _ _ _ => rts_nil) (fun _ _ _ _ _ => (ri_seq (re_call (ok_names_in T) (hr.mono (by omega)) (by rfl) T.t_names_in.g T.t_names_in.F.kp T.t_names_in.b takes0 (ra_cons (re_var 8) ra_nil) (aC_len aN_len)))) (fun _ _ _ _ _ => (rg_name 9 nd rfl (by first | exact .inl rfl | exact .inr rfl))) (fun _ _ _ _ _ => rts_nil) (fun _ _ _ _ _ => (re_var 9)) (by decide) (by decide)) (re_callTy cr_list (by rfl) T.n_list (by decide +kernel) (ra_cons (re_var 6) ra_nil))))
      (rss_cons (rs_if (rt_of (rw_or (rt_not (rt_tru (re_callB (cr_allP rfl) (by rfl) T.n_all (by decide +kernel) (ra_cons (re_lc (own := [("one", 9)]) rfl nd (ri_seq (re_var 3)) (blkOk_by (own := [("one", 9)]) (N := ["definition", "others", "every", "names", "calls", "name", "parameters", "rows", "row", "one", "called", "given"]) (sc := defScope (topS 17)) (by decide +kernel)) (fun _ _ _ _ _ => (rg_name 9 nd rfl (by first | exact .inl rfl | exact .inr rfl))) (fun _ _ _ _ _ => rts_nil) (fun _ _ _ _ _ => (re_call (ok_is_name T) (hr.mono (by omega)) (by rfl) T.t_is_name.g T.t_is_name.F.kp T.t_is_name.b takes0 (ra_cons (re_var 9) ra_nil) (aC_len aN_len))) (by decide)) ra_nil)))) (rw_or1 (rt_cmp og_lt (re_lenSet rfl (by rfl) T.n_len (by rfl) T.n_set (re_var 6)) (re_callB cr_len (by rfl) T.n_len (by decide +kernel) (ra_cons (re_var 6) ra_nil)))))) (rss_one (rs_ret re_bl)) rss_nil)
      (rss_cons (rs_setLc 4 (own := [("row", 8)]) rfl nd rfl rfl (sw_true rfl rfl rfl (by decide +kernel)) (ri_seq (re_var 2)) (blkOk_by (own := [("row", 8)]) (N := ["definition", "others", "every", "names", "calls", "name", "parameters", "rows", "row", "one", "called", "given"]) (sc := defScope (topS 17)) (by decide +kernel)) (fun _ _ _ _ _ => (rg_name 8 nd rfl (by first | exact .inl rfl | exact .inr rfl))) (fun _ _ _ _ _ => (rts_one (rt_notN (re_call (ok_call_of T) (hr.mono (by omega)) (by rfl) T.t_call_of.g T.t_call_of.F.kp T.t_call_of.b takes0 (ra_cons (re_var 8) ra_nil) (aC_len aN_len))))) (fun _ _ _ _ _ => (re_call (ok_call_of T) (hr.mono (by omega)) (by rfl) T.t_call_of.g T.t_call_of.F.kp T.t_call_of.b takes0 (ra_cons (re_var 8) ra_nil) (aC_len aN_len))) (by decide))
      (rss_one (rs_ret (re_callB (cr_allP rfl) (by rfl) T.n_all (by decide +kernel) (ra_cons (re_lc (own := [("called", 10), ("given", 11)]) rfl nd (ri_seq (re_var 4)) (blkOk_by (own := [("called", 10), ("given", 11)]) (N := ["definition", "others", "every", "names", "calls", "name", "parameters", "rows", "row", "one", "called", "given"]) (sc := defScope (topS 17)) (by decide +kernel)) (fun _ _ _ _ _ => (rg_tup rfl (rgs_cons (rg_name 10 nd rfl (by first | exact .inl rfl | exact .inr rfl)) (rgs_cons (rg_name 11 nd rfl (by first | exact .inl rfl | exact .inr rfl)) rgs_nil)))) (fun _ _ _ _ _ => rts_nil) (fun _ _ _ _ _ => (re_and (re_cmp (og_in hu65) (re_var 10) (re_var 1)) (re_one (re_cmp (og_eq hu64) (re_callB cr_len (by rfl) T.n_len (by decide +kernel) (ra_cons (re_dget hu1 (re_var 1) (re_var 10)) ra_nil)) (re_callB cr_len (by rfl) T.n_len (by decide +kernel) (ra_cons (re_var 11) ra_nil)))))) (by decide)) ra_nil)))))))))
theorem ok_Program_init (T : Tx K mg) : FnOk P w K mg base (L2.CX P w) 11 T.t_Program_init.a T.t_Program_init.d ["self", "definitions"] (spD K mg 2 m_Program_init) := fn_body (k := 10) T.t_Program_init.F sc_Program_init rfl fun cdv A outer s H Q E hr => by
    have nd := sc_Program_init.nd
    have hu1 := hu_of hr
    have hu64 := hr.units
    have hu65 := hu65_of hr
    have tk := takes_of (X := cxOf (L2.CX P w) P w K mg base ["self", "definitions", "others", "met", "definition", "name", "parameters", "rows"] "Program.__init__" (defScope (inClass (topS 18) 0)) T.t_Program_init.a cdv A outer s H E) (E := E) rfl rfl rfl rfl
    exact (rss_cons (rs_set 2 nd rfl (by first | exact .inl rfl | exact .inr rfl) re_dict0)
      (rss_cons (rs_for (passes_of rfl) rfl (ri_seq (re_var 1)) (rg_tup rfl (rgs_cons (rg_name 5 nd rfl (by first | exact .inl rfl | exact .inr rfl)) (rgs_cons (rg_name 6 nd rfl (by first | exact .inl rfl | exact .inr rfl)) (rgs_cons (rg_name 7 nd rfl (by first | exact .inl rfl | exact .inr rfl)) rgs_nil)))) (rss_one (rs_expr (re_setdef (re_var 2) (re_var 5) (re_var 6) ⟨rfl, rfl, rfl, rfl⟩))))
      (rss_cons (rs_set 3 nd rfl (by first | exact .inl rfl | exact .inr rfl) (re_lst ra_nil))
      (rss_cons (rs_for (passes_of rfl) rfl (ri_seq (re_var 1)) (rg_name 4 nd rfl (by first | exact .inl rfl | exact .inr rfl)) (rss_cons (rs_if (rt_of (rw_or (rt_not (rt_tru (re_call (ok_is_name T) (hr.mono (by omega)) (by rfl) T.t_is_name.g T.t_is_name.F.kp T.t_is_name.b tk (ra_cons (re_ix (re_var 4) re_int) ra_nil) (aC_len aN_len)))) (rw_or (rt_cmp (og_in hu65) (re_ix (re_var 4) re_int) (re_var 3)) (rw_or1 (rt_not (rt_tru (re_call (ok_is_sound T) (hr.mono (by omega)) (by rfl) T.t_is_sound.g T.t_is_sound.F.kp T.t_is_sound.b tk (ra_cons (re_var 4) (ra_cons (re_var 2) ra_nil)) (aC_len (aC_len aN_len))))))))) (rss_one (rs_raise T.x_NoProgram T.i_init (fn_init T.t_einit T.sc_einit T.bo_einit (k := 0)) (hr.mono (by omega)) T.b_einit (by rfl) rfl tk (re_ix (re_var 4) re_int))) rss_nil)
      (rss_one (rs_expr (re_bm PySem.F.plainAttrs_list PySem.F.slot_list_append PySem.F.type_list_append om_append (re_var 3) (ra_cons (re_ix (re_var 4) re_int) ra_nil))))))
      (rss_cons (rs_if (rt_cmp (og_ne hu64) (re_get2 hu1 (re_var 2) (re_globS (by rfl) T.c_MAIN) (re_tup (ra_cons (re_globS (by rfl) T.c_MAIN) ra_nil)) ⟨rfl, rfl, rfl, rfl⟩) (re_tup ra_nil)) (rss_one (rs_raise T.x_NoProgram T.i_init (fn_init T.t_einit T.sc_einit T.bo_einit (k := 0)) (hr.mono (by omega)) T.b_einit (by rfl) rfl tk re_non)) rss_nil)
      (rss_one (rs_fld T.g_Program T.cl_Program T.na_definitions_kept (re_var 0) (re_callTy cr_list (by rfl) T.n_list (by decide +kernel) (ra_cons (re_var 1) ra_nil)))))))))
theorem ok__law_tray (T : Tx K mg) : FnOk P w K mg base (L2.CX P w) 1 T.t__law_tray.a T.t__law_tray.d ["_law_script"] (spD K mg 1 m__law_tray) := fn_body (k := 0) T.t__law_tray.F sc__law_tray rfl fun cdv A outer s H Q E hr => by
    have nd := sc__law_tray.nd
    have hu1 := hu_of hr
    have hu64 := hr.units
    have hu65 := hu65_of hr
    have tk := takes_of (X := cxOf (L2.CX P w) P w K mg base ["_law_script", "_law_fold", "_law_great_here", "_law_cell", "_law_much"] "_law_tray" (defScope (topS 20)) T.t__law_tray.a cdv A outer s H E) (E := E) rfl rfl rfl rfl
    exact (rss_cons (rs_set 1 nd rfl (by first | exact .inl rfl | exact .inr rfl) re_int)
      (rss_cons (rs_set 2 nd rfl (by first | exact .inl rfl | exact .inr rfl) (re_lst ra_nil))
      (rss_cons (rs_for (passes_of rfl) rfl (ri_seq (re_var 0)) (rg_name 3 nd rfl (by first | exact .inl rfl | exact .inr rfl)) (rss_cons (rs_set 1 nd rfl (by first | exact .inl rfl | exact .inr rfl) (re_bin og_mod (re_bin og_add (re_bin og_mul (re_var 1) re_int) (re_var 3)) (re_bin og_sub (re_bin og_pow re_int re_int) re_int)))
      (rss_cons (rs_set 4 nd rfl (by first | exact .inl rfl | exact .inr rfl) (re_callB (cr_max2P rfl) (by rfl) T.n_max (by decide +kernel) (ra_cons (re_var 3) (ra_cons (re_bin og_sub re_int (re_var 3)) ra_nil))))
      (rss_one (rs_if (rt_cmp og_ge (re_var 4) (re_bin og_pow re_int re_int)) (rss_one (rs_expr (re_bm PySem.F.plainAttrs_list PySem.F.slot_list_append PySem.F.type_list_append om_append (re_var 2) (ra_cons (re_bin og_sub (re_var 4) (re_bin og_pow re_int re_int)) ra_nil)))) rss_nil)))))
      (rss_one (rs_ret (re_lst (ra_cons (re_var 2) (ra_cons re_int (ra_cons (re_var 1) (ra_cons re_int ra_nil))))))))))
theorem ok__law_draw (T : Tx K mg) : FnOk P w K mg base (L2.CX P w) 1 T.t__law_draw.a T.t__law_draw.d ["_law_tray_here", "_law_many"] (spD K mg 2 m__law_draw) := fn_body (k := 0) T.t__law_draw.F sc__law_draw rfl fun cdv A outer s H Q E hr => by
    have nd := sc__law_draw.nd
    have hu1 := hu_of hr
    have hu64 := hr.units
    have hu65 := hu65_of hr
    have tk := takes_of (X := cxOf (L2.CX P w) P w K mg base ["_law_tray_here", "_law_many", "_law_mixed", "_law_found"] "_law_draw" (defScope (topS 21)) T.t__law_draw.a cdv A outer s H E) (E := E) rfl rfl rfl rfl
    exact (rss_cons (rs_while (passes_of rfl) (rt_of (rw_and (rt_cmp og_lt (re_ix (re_var 0) re_int) re_int) (rw_and1 (rt_cmp (og_ne hu64) (re_ix (re_var 0) re_int) (re_lst ra_nil))))) (rss_one (rs_sub (re_bm PySem.F.plainAttrs_list PySem.F.slot_list_pop PySem.F.type_list_pop om_pop (re_ix (re_var 0) re_int) (ra_cons re_int ra_nil)) (re_var 0) re_int)))
      (rss_cons (rs_if (rt_cmp og_ge (re_ix (re_var 0) re_int) re_int) (rss_cons (rs_set 3 nd rfl (by first | exact .inl rfl | exact .inr rfl) (re_bin og_mod (re_ix (re_var 0) re_int) (re_var 1)))
      (rss_cons (rs_sub (re_bin og_fdiv (re_ix (re_var 0) re_int) (re_var 1)) (re_var 0) re_int)
      (rss_one (rs_ret (re_var 3))))) rss_nil)
      (rss_cons (rs_sub (re_bin og_add (re_ix (re_var 0) re_int) re_int) (re_var 0) re_int)
      (rss_cons (rs_set 2 nd rfl (by first | exact .inl rfl | exact .inr rfl) (re_bin og_mod (re_bin og_add (re_bin og_mul (re_bin og_add (re_ix (re_var 0) re_int) re_int) (re_bin og_pow (re_bin og_add (re_ix (re_var 0) re_int) re_int) re_int)) (re_bin og_mul re_int (re_ix (re_var 0) re_int))) (re_bin og_sub (re_bin og_pow re_int re_int) re_int)))
      (rss_one (rs_ret (re_bin og_mod (re_bin og_fdiv (re_bin og_mod (re_bin og_pow (re_var 2) re_int) (re_bin og_add (re_bin og_pow re_int re_int) re_int)) re_int) (re_var 1))))))))
theorem ok__law_great (T : Tx K mg) : FnOk P w K mg base (L2.CX P w) 2 T.t__law_great.a T.t__law_great.d ["_law_tray_here"] (spD K mg 1 m__law_great) := fn_body (k := 1) T.t__law_great.F sc__law_great rfl fun cdv A outer s H Q E hr => by
    have nd := sc__law_great.nd
    have hu1 := hu_of hr
    have hu64 := hr.units
    have hu65 := hu65_of hr
    have tk := takes_of (X := cxOf (L2.CX P w) P w K mg base ["_law_tray_here", "_law_found", "_law_k"] "_law_great" (defScope (topS 22)) T.t__law_great.a cdv A outer s H E) (E := E) rfl rfl rfl rfl
    exact (rss_cons (rs_set 1 nd rfl (by first | exact .inl rfl | exact .inr rfl) (re_call (ok__law_draw T) (hr.mono (by omega)) (by rfl) T.t__law_draw.g T.t__law_draw.F.kp T.t__law_draw.b tk (ra_cons (re_var 0) (ra_cons (re_bin og_pow re_int re_int) ra_nil)) (aC_len (aC_len aN_len))))
      (rss_cons (rs_for (passes_of rfl) rfl (ri_range1 (by rfl) T.n_range re_int) (rg_name 2 nd rfl (by first | exact .inl rfl | exact .inr rfl)) (rss_one (rs_set 1 nd rfl (by first | exact .inl rfl | exact .inr rfl) (re_bin og_add (re_bin og_mul (re_var 1) (re_bin og_pow re_int re_int)) (re_call (ok__law_draw T) (hr.mono (by omega)) (by rfl) T.t__law_draw.g T.t__law_draw.F.kp T.t__law_draw.b tk (ra_cons (re_var 0) (ra_cons (re_bin og_pow re_int re_int) ra_nil)) (aC_len (aC_len aN_len)))))))
      (rss_one (rs_ret (re_var 1)))))
theorem ok__law_name (T : Tx K mg) : FnOk P w K mg base (L2.CX P w) 2 T.t__law_name.a T.t__law_name.d ["_law_tray_here", "_law_used"] (spD K mg 2 m__law_name) := fn_body (k := 1) T.t__law_name.F sc__law_name rfl fun cdv A outer s H Q E hr => by
    have nd := sc__law_name.nd
    have hu1 := hu_of hr
    have hu64 := hr.units
    have hu65 := hu65_of hr
    have tk := takes_of (X := cxOf (L2.CX P w) P w K mg base ["_law_tray_here", "_law_used", "_law_letters", "_law_lot", "_law_letter", "_law_name_here", "_law_some", "_law_bars", "_law_words", "_law_old", "_law_at", "_law_k", "_law_one"] "_law_name" (defScope (topS 23)) T.t__law_name.a cdv A outer s H E) (E := E) rfl rfl rfl rfl
    exact (rss_cons (rs_set 2 nd rfl (by first | exact .inl rfl | exact .inr rfl) re_str)
      (rss_cons (rs_set 3 nd rfl (by first | exact .inl rfl | exact .inr rfl) (re_call (ok__law_draw T) (hr.mono (by omega)) (by rfl) T.t__law_draw.g T.t__law_draw.F.kp T.t__law_draw.b tk (ra_cons (re_var 0) (ra_cons re_int ra_nil)) (aC_len (aC_len aN_len))))
      (rss_cons (rs_set 4 nd rfl (by first | exact .inl rfl | exact .inr rfl) (re_ix (re_var 2) (re_call (ok__law_draw T) (hr.mono (by omega)) (by rfl) T.t__law_draw.g T.t__law_draw.F.kp T.t__law_draw.b tk (ra_cons (re_var 0) (ra_cons re_int ra_nil)) (aC_len (aC_len aN_len)))))
      (rss_cons (rs_set 5 nd rfl (by first | exact .inl rfl | exact .inr rfl) (re_bm PySem.F.plainAttrs_str PySem.F.slot_str_join PySem.F.type_str_join om_join re_str (ra_cons (re_lc (own := [("_law_k", 11)]) rfl nd (ri_range1 (by rfl) T.n_range (re_bin og_add re_int (re_call (ok__law_draw T) (hr.mono (by omega)) (by rfl) T.t__law_draw.g T.t__law_draw.F.kp T.t__law_draw.b tk (ra_cons (re_var 0) (ra_cons re_int ra_nil)) (aC_len (aC_len aN_len))))) (blkOk_by (own := [("_law_k", 11)]) (N := ["_law_tray_here", "_law_used", "_law_letters", "_law_lot", "_law_letter", "_law_name_here", "_law_some", "_law_bars", "_law_words", "_law_old", "_law_at", "_law_k", "_law_one"]) (sc := defScope (topS 23)) (by decide +kernel)) (fun _ _ _ _ _ => (rg_name 11 nd rfl (by first | exact .inl rfl | exact .inr rfl))) (fun _ _ _ _ _ => rts_nil) (fun _ _ _ _ _ => (re_ix (re_var 2) (re_call (ok__law_draw T) (hr.mono (by omega)) (by rfl) T.t__law_draw.g T.t__law_draw.F.kp T.t__law_draw.b takes0 (ra_cons (re_var 0) (ra_cons re_int ra_nil)) (aC_len (aC_len aN_len))))) (by decide)) ra_nil)))
      (rss_cons (rs_if (rt_cmp (og_eq hu64) (re_var 3) re_int) (rss_cons (rs_set 8 nd rfl (by first | exact .inl rfl | exact .inr rfl) (re_lst (ra_cons re_str (ra_cons re_str (ra_cons re_str (ra_cons re_str (ra_cons re_str (ra_cons re_str (ra_cons re_str (ra_cons re_str (ra_cons re_str (ra_cons re_str (ra_cons re_str (ra_cons re_str ra_nil))))))))))))))
      (rss_one (rs_set 5 nd rfl (by first | exact .inl rfl | exact .inr rfl) (re_ix (re_var 8) (re_call (ok__law_draw T) (hr.mono (by omega)) (by rfl) T.t__law_draw.g T.t__law_draw.F.kp T.t__law_draw.b tk (ra_cons (re_var 0) (ra_cons re_int ra_nil)) (aC_len (aC_len aN_len))))))) (rss_one (rs_if (rt_of (rw_and (rt_cmp og_gt (re_var 3) re_int) (rw_and1 (rt_cmp (og_ne hu64) (re_var 1) (re_lst ra_nil))))) (rss_cons (rs_set 9 nd rfl (by first | exact .inl rfl | exact .inr rfl) (re_ix (re_var 1) (re_call (ok__law_draw T) (hr.mono (by omega)) (by rfl) T.t__law_draw.g T.t__law_draw.F.kp T.t__law_draw.b tk (ra_cons (re_var 0) (ra_cons (re_callB cr_len (by rfl) T.n_len (by decide +kernel) (ra_cons (re_var 1) ra_nil)) ra_nil)) (aC_len (aC_len aN_len)))))
      (rss_cons (rs_set 10 nd rfl (by first | exact .inl rfl | exact .inr rfl) (re_call (ok__law_draw T) (hr.mono (by omega)) (by rfl) T.t__law_draw.g T.t__law_draw.F.kp T.t__law_draw.b tk (ra_cons (re_var 0) (ra_cons (re_bin og_add (re_callB cr_len (by rfl) T.n_len (by decide +kernel) (ra_cons (re_var 9) ra_nil)) re_int) ra_nil)) (aC_len (aC_len aN_len))))
      (rss_one (rs_set 5 nd rfl (by first | exact .inl rfl | exact .inr rfl) (re_slice (re_bin og_add (re_bin og_add (re_slice (re_var 9) ro_none (ro_some (re_var 10))) (re_ix (re_lst (ra_cons (re_var 4) (ra_cons (re_var 4) (ra_cons re_str ra_nil)))) (re_bin og_sub (re_var 3) re_int))) (re_slice (re_var 9) (ro_some (re_bin og_add (re_var 10) (re_ix (re_lst (ra_cons re_int (ra_cons re_int (ra_cons re_int ra_nil)))) (re_bin og_sub (re_var 3) re_int)))) ro_none)) ro_none (ro_some re_int)))))) rss_nil)))
      (rss_cons (rs_set 6 nd rfl (by first | exact .inl rfl | exact .inr rfl) (re_bin og_add (re_bin og_add (re_bin og_add (re_lst (ra_cons (re_var 5) ra_nil)) (re_lc (own := [("_law_one", 12)]) rfl nd (ri_seq (re_var 2)) (blkOk_by (own := [("_law_one", 12)]) (N := ["_law_tray_here", "_law_used", "_law_letters", "_law_lot", "_law_letter", "_law_name_here", "_law_some", "_law_bars", "_law_words", "_law_old", "_law_at", "_law_k", "_law_one"]) (sc := defScope (topS 23)) (by decide +kernel)) (fun _ _ _ _ _ => (rg_name 12 nd rfl (by first | exact .inl rfl | exact .inr rfl))) (fun _ _ _ _ _ => rts_nil) (fun _ _ _ _ _ => (re_var 12)) (by decide))) (re_lc (own := [("_law_one", 12)]) rfl nd (ri_seq (re_var 2)) (blkOk_by (own := [("_law_one", 12)]) (N := ["_law_tray_here", "_law_used", "_law_letters", "_law_lot", "_law_letter", "_law_name_here", "_law_some", "_law_bars", "_law_words", "_law_old", "_law_at", "_law_k", "_law_one"]) (sc := defScope (topS 23)) (by decide +kernel)) (fun _ _ _ _ _ => (rg_name 12 nd rfl (by first | exact .inl rfl | exact .inr rfl))) (fun _ _ _ _ _ => rts_nil) (fun _ _ _ _ _ => (re_bin og_mul (re_var 12) re_int)) (by decide))) (re_lc (own := [("_law_one", 12)]) rfl nd (ri_seq (re_var 2)) (blkOk_by (own := [("_law_one", 12)]) (N := ["_law_tray_here", "_law_used", "_law_letters", "_law_lot", "_law_letter", "_law_name_here", "_law_some", "_law_bars", "_law_words", "_law_old", "_law_at", "_law_k", "_law_one"]) (sc := defScope (topS 23)) (by decide +kernel)) (fun _ _ _ _ _ => (rg_name 12 nd rfl (by first | exact .inl rfl | exact .inr rfl))) (fun _ _ _ _ _ => rts_nil) (fun _ _ _ _ _ => (re_bin og_mul (re_var 12) re_int)) (by decide))))
      (rss_cons (rs_set 7 nd rfl (by first | exact .inl rfl | exact .inr rfl) (re_lst (ra_cons re_str (ra_cons re_str (ra_cons re_str (ra_cons re_str (ra_cons re_str (ra_cons re_str (ra_cons re_str (ra_cons re_str (ra_cons re_str (ra_cons re_str (ra_cons re_str ra_nil)))))))))))))
      (rss_one (rs_ret (re_ix (re_lc (own := [("_law_one", 12)]) rfl nd (ri_seq (re_var 6)) (blkOk_by (own := [("_law_one", 12)]) (N := ["_law_tray_here", "_law_used", "_law_letters", "_law_lot", "_law_letter", "_law_name_here", "_law_some", "_law_bars", "_law_words", "_law_old", "_law_at", "_law_k", "_law_one"]) (sc := defScope (topS 23)) (by decide +kernel)) (fun _ _ _ _ _ => (rg_name 12 nd rfl (by first | exact .inl rfl | exact .inr rfl))) (fun _ _ _ _ _ => (rts_one (rt_cmp (og_notIn hu65) (re_var 12) (re_bin og_add (re_var 1) (re_var 7))))) (fun _ _ _ _ _ => (re_var 12)) (by decide)) re_int))))))))))
theorem ok__law_names (T : Tx K mg) : FnOk P w K mg base (L2.CX P w) 3 T.t__law_names.a T.t__law_names.d ["_law_tray_here", "_law_many", "_law_used"] (spD K mg 3 m__law_names) := fn_body (k := 2) T.t__law_names.F sc__law_names rfl fun cdv A outer s H Q E hr => by
    have nd := sc__law_names.nd
    have hu1 := hu_of hr
    have hu64 := hr.units
    have hu65 := hu65_of hr
    have tk := takes_of (X := cxOf (L2.CX P w) P w K mg base ["_law_tray_here", "_law_many", "_law_used", "_law_found", "_law_k"] "_law_names" (defScope (topS 24)) T.t__law_names.a cdv A outer s H E) (E := E) rfl rfl rfl rfl
    exact (rss_cons (rs_set 3 nd rfl (by first | exact .inl rfl | exact .inr rfl) (re_lst ra_nil))
      (rss_cons (rs_for (passes_of rfl) rfl (ri_range1 (by rfl) T.n_range (re_var 1)) (rg_name 4 nd rfl (by first | exact .inl rfl | exact .inr rfl)) (rss_one (rs_expr (re_bm PySem.F.plainAttrs_list PySem.F.slot_list_append PySem.F.type_list_append om_append (re_var 3) (ra_cons (re_call (ok__law_name T) (hr.mono (by omega)) (by rfl) T.t__law_name.g T.t__law_name.F.kp T.t__law_name.b tk (ra_cons (re_var 0) (ra_cons (re_bin og_add (re_var 2) (re_var 3)) ra_nil)) (aC_len (aC_len aN_len))) ra_nil)))))
      (rss_one (rs_ret (re_var 3)))))
theorem ok__law_whole (T : Tx K mg) : FnOk P w K mg base (L2.CX P w) 3 T.t__law_whole.a T.t__law_whole.d ["_law_tray_here"] (spD K mg 1 m__law_whole) := fn_body (k := 2) T.t__law_whole.F sc__law_whole rfl fun cdv A outer s H Q E hr => by
    have nd := sc__law_whole.nd
    have hu1 := hu_of hr
    have hu64 := hr.units
    have hu65 := hu65_of hr
    have tk := takes_of (X := cxOf (L2.CX P w) P w K mg base ["_law_tray_here"] "_law_whole" (defScope (topS 25)) T.t__law_whole.a cdv A outer s H E) (E := E) rfl rfl rfl rfl
    exact (rss_cons (rs_if (rt_cmp (og_eq hu64) (re_call (ok__law_draw T) (hr.mono (by omega)) (by rfl) T.t__law_draw.g T.t__law_draw.F.kp T.t__law_draw.b tk (ra_cons (re_var 0) (ra_cons re_int ra_nil)) (aC_len (aC_len aN_len))) re_int) (rss_one (rs_ret (re_bin og_mul (re_bin og_add (re_bin og_mul (re_call (ok__law_great T) (hr.mono (by omega)) (by rfl) T.t__law_great.g T.t__law_great.F.kp T.t__law_great.b tk (ra_cons (re_var 0) ra_nil) (aC_len aN_len)) re_int) (re_call (ok__law_draw T) (hr.mono (by omega)) (by rfl) T.t__law_draw.g T.t__law_draw.F.kp T.t__law_draw.b tk (ra_cons (re_var 0) (ra_cons re_int ra_nil)) (aC_len (aC_len aN_len)))) (re_bin og_sub re_int (re_bin og_mul re_int (re_call (ok__law_draw T) (hr.mono (by omega)) (by rfl) T.t__law_draw.g T.t__law_draw.F.kp T.t__law_draw.b tk (ra_cons (re_var 0) (ra_cons re_int ra_nil)) (aC_len (aC_len aN_len)))))))) rss_nil)
      (rss_one (rs_ret (re_ix (re_lst (ra_cons re_int (ra_cons re_int (ra_cons re_int (ra_cons re_int (ra_cons re_int (ra_cons (re_neg re_int) (ra_cons (re_neg re_int) (ra_cons re_int ra_nil))))))))) (re_call (ok__law_draw T) (hr.mono (by omega)) (by rfl) T.t__law_draw.g T.t__law_draw.F.kp T.t__law_draw.b tk (ra_cons (re_var 0) (ra_cons re_int ra_nil)) (aC_len (aC_len aN_len)))))))
theorem ok__law_value (T : Tx K mg) : FnOk P w K mg base (L2.CX P w) 4 T.t__law_value.a T.t__law_value.d ["_law_tray_here", "_law_own", "_law_heads"] (spD K mg 3 m__law_value) := fn_body (k := 3) T.t__law_value.F sc__law_value rfl fun cdv A outer s H Q E hr => by
    have nd := sc__law_value.nd
    have hu1 := hu_of hr
    have hu64 := hr.units
    have hu65 := hu65_of hr
    have tk := takes_of (X := cxOf (L2.CX P w) P w K mg base ["_law_tray_here", "_law_own", "_law_heads", "_law_lot", "_law_some", "_law_value_here", "_law_k", "_law_name_here", "_law_parameters"] "_law_value" (defScope (topS 26)) T.t__law_value.a cdv A outer s H E) (E := E) rfl rfl rfl rfl
    exact (rss_cons (rs_set 3 nd rfl (by first | exact .inl rfl | exact .inr rfl) (re_call (ok__law_draw T) (hr.mono (by omega)) (by rfl) T.t__law_draw.g T.t__law_draw.F.kp T.t__law_draw.b tk (ra_cons (re_var 0) (ra_cons re_int ra_nil)) (aC_len (aC_len aN_len))))
      (rss_cons (rs_setLc 4 (own := [("_law_k", 6)]) rfl nd rfl rfl (sw_true rfl rfl rfl (by decide +kernel)) (ri_range1 (by rfl) T.n_range re_int) (blkOk_by (own := [("_law_k", 6)]) (N := ["_law_tray_here", "_law_own", "_law_heads", "_law_lot", "_law_some", "_law_value_here", "_law_k", "_law_name_here", "_law_parameters"]) (sc := defScope (topS 26)) (by decide +kernel)) (fun _ _ _ _ _ => (rg_name 6 nd rfl (by first | exact .inl rfl | exact .inr rfl))) (fun _ _ _ _ _ => rts_nil) (fun _ _ _ _ _ => (re_ix (re_var 1) (re_call (ok__law_draw T) (hr.mono (by omega)) (by rfl) T.t__law_draw.g T.t__law_draw.F.kp T.t__law_draw.b takes0 (ra_cons (re_var 0) (ra_cons (re_callB cr_len (by rfl) T.n_len (by decide +kernel) (ra_cons (re_var 1) ra_nil)) ra_nil)) (aC_len (aC_len aN_len))))) (by decide))
      (rss_cons (rs_if (rt_cmp og_gt (re_var 3) re_int) (rss_cons (rs_asg (re_ix (re_var 2) (re_call (ok__law_draw T) (hr.mono (by omega)) (by rfl) T.t__law_draw.g T.t__law_draw.F.kp T.t__law_draw.b tk (ra_cons (re_var 0) (ra_cons (re_callB cr_len (by rfl) T.n_len (by decide +kernel) (ra_cons (re_var 2) ra_nil)) ra_nil)) (aC_len (aC_len aN_len)))) (rg_tup rfl (rgs_cons (rg_name 7 nd rfl (by first | exact .inl rfl | exact .inr rfl)) (rgs_cons (rg_name 8 nd rfl (by first | exact .inl rfl | exact .inr rfl)) rgs_nil))))
      (rss_one (rs_ret (re_tup (ra_cons re_str (ra_cons (re_var 7) (ra_cons (re_callTy cr_tuple (by rfl) T.n_tuple (by decide +kernel) (ra_cons (re_slice (re_var 4) ro_none (ro_some (re_callB cr_len (by rfl) T.n_len (by decide +kernel) (ra_cons (re_var 8) ra_nil)))) ra_nil)) ra_nil))))))) rss_nil)
      (rss_cons (rs_set 5 nd rfl (by first | exact .inl rfl | exact .inr rfl) (re_lst (ra_cons (re_tup (ra_cons re_str (ra_cons (re_call (ok__law_whole T) (hr.mono (by omega)) (by rfl) T.t__law_whole.g T.t__law_whole.F.kp T.t__law_whole.b tk (ra_cons (re_var 0) ra_nil) (aC_len aN_len)) ra_nil))) (ra_cons (re_tup (ra_cons re_str (ra_cons (re_ix (re_var 4) re_int) ra_nil))) (ra_cons (re_tup (ra_cons re_str (ra_cons (re_ix (re_var 4) re_int) (ra_cons (re_ix (re_var 4) re_int) ra_nil)))) (ra_cons (re_tup (ra_cons re_str ra_nil)) (ra_cons (re_tup (ra_cons re_str (ra_cons (re_ix (re_var 4) re_int) ra_nil))) ra_nil)))))))
      (rss_one (rs_ret (re_ix (re_bin og_add (re_var 5) (re_lst (ra_cons (re_tup (ra_cons re_str ra_nil)) ra_nil))) (re_var 3))))))))
theorem okg__law_row (T : Tx K mg) : ∀ d : Nat, FnOk P w K mg base (L2.CX P w) (5 + d) T.t__law_row.a T.t__law_row.d ["_law_tray_here", "_law_own", "_law_heads", "_law_left", "_law_deep"] (spD K mg 5 (m__law_row d)) ∧
    FnOk P w K mg base (L2.CX P w) (5 + d) T.t__law_rows.a T.t__law_rows.d ["_law_tray_here", "_law_own", "_law_heads", "_law_left", "_law_deep"] (spD K mg 5 (m__law_rows d))
  | 0 => ⟨fn_bad, fn_bad⟩
  | d + 1 => by
   obtain ⟨ih__law_row, ih__law_rows⟩ := okg__law_row T d
   refine ⟨?_, ?_⟩
   · exact fn_body (k := 5 + d) T.t__law_row.F sc__law_row rfl fun cdv A outer s H Q E hr => by
         have nd := sc__law_row.nd
         have hu1 := hu_of hr
         have hu64 := hr.units
         have hu65 := hu65_of hr
         have tk := takes_of (X := cxOf (L2.CX P w) P w K mg base ["_law_tray_here", "_law_own", "_law_heads", "_law_left", "_law_deep", "_law_lot", "_law_name_here", "_law_ones"] "_law_row" (defScope (topS 27)) T.t__law_row.a cdv A outer s H E) (E := E) rfl rfl rfl rfl
         exact (rss_cons (rs_sub (re_bin og_sub (re_ix (re_var 3) re_int) re_int) (re_var 3) re_int)
           (rss_cons (rs_set 5 nd rfl (by first | exact .inl rfl | exact .inr rfl) (re_call (ok__law_draw T) (hr.mono (by omega)) (by rfl) T.t__law_draw.g T.t__law_draw.F.kp T.t__law_draw.b tk (ra_cons (re_var 0) (ra_cons re_int ra_nil)) (aC_len (aC_len aN_len))))
           (rss_cons (rs_set 6 nd rfl (by first | exact .inl rfl | exact .inr rfl) (re_ix (re_var 1) (re_call (ok__law_draw T) (hr.mono (by omega)) (by rfl) T.t__law_draw.g T.t__law_draw.F.kp T.t__law_draw.b tk (ra_cons (re_var 0) (ra_cons (re_callB cr_len (by rfl) T.n_len (by decide +kernel) (ra_cons (re_var 1) ra_nil)) ra_nil)) (aC_len (aC_len aN_len)))))
           (rss_cons (rs_if (rt_of (rw_and (rt_cmp og_gt (re_var 5) re_int) (rw_and1 (rt_cmp og_gt (re_var 4) re_int)))) (rss_cons (rs_set 7 nd rfl (by first | exact .inl rfl | exact .inr rfl) (re_call ih__law_rows (hr.mono (by omega)) (by rfl) T.t__law_rows.g T.t__law_rows.F.kp T.t__law_rows.b tk (ra_cons (re_var 0) (ra_cons (re_var 1) (ra_cons (re_var 2) (ra_cons (re_var 3) (ra_cons (re_bin og_sub (re_var 4) re_int) ra_nil))))) (aC_len (aC_len (aC_len (aC_len (aC_len aN_len)))))))
           (rss_one (rs_ret (re_tup (ra_cons re_str (ra_cons (re_var 6) (ra_cons (re_var 7) (ra_cons (re_call ih__law_rows (hr.mono (by omega)) (by rfl) T.t__law_rows.g T.t__law_rows.F.kp T.t__law_rows.b tk (ra_cons (re_var 0) (ra_cons (re_var 1) (ra_cons (re_var 2) (ra_cons (re_var 3) (ra_cons (re_bin og_sub (re_var 4) re_int) ra_nil))))) (aC_len (aC_len (aC_len (aC_len (aC_len aN_len)))))) ra_nil)))))))) rss_nil)
           (rss_cons (rs_if (rt_cmp og_lt (re_var 5) re_int) (rss_one (rs_ret (re_tup (ra_cons re_str (ra_cons (re_var 6) (ra_cons (re_call (ok__law_value T) (hr.mono (by omega)) (by rfl) T.t__law_value.g T.t__law_value.F.kp T.t__law_value.b tk (ra_cons (re_var 0) (ra_cons (re_var 1) (ra_cons (re_var 2) ra_nil))) (aC_len (aC_len (aC_len aN_len)))) ra_nil)))))) rss_nil)
           (rss_one (rs_ret (re_tup (ra_cons (re_ix (re_lst (ra_cons re_str (ra_cons re_str (ra_cons re_str (ra_cons re_str ra_nil))))) (re_callB (cr_min2P rfl) (by rfl) T.n_min (by decide +kernel) (ra_cons re_int (ra_cons (re_bin og_sub (re_var 5) re_int) ra_nil)))) (ra_cons (re_var 6) ra_nil))))))))))
   · exact fn_body (k := 5 + d) T.t__law_rows.F sc__law_rows rfl fun cdv A outer s H Q E hr => by
         have nd := sc__law_rows.nd
         have hu1 := hu_of hr
         have hu64 := hr.units
         have hu65 := hu65_of hr
         have tk := takes_of (X := cxOf (L2.CX P w) P w K mg base ["_law_tray_here", "_law_own", "_law_heads", "_law_left", "_law_deep", "_law_found", "_law_k"] "_law_rows" (defScope (topS 28)) T.t__law_rows.a cdv A outer s H E) (E := E) rfl rfl rfl rfl
         exact (rss_cons (rs_set 5 nd rfl (by first | exact .inl rfl | exact .inr rfl) (re_lst ra_nil))
           (rss_cons (rs_for (passes_of rfl) rfl (ri_range1 (by rfl) T.n_range (re_call (ok__law_draw T) (hr.mono (by omega)) (by rfl) T.t__law_draw.g T.t__law_draw.F.kp T.t__law_draw.b tk (ra_cons (re_var 0) (ra_cons re_int ra_nil)) (aC_len (aC_len aN_len)))) (rg_name 6 nd rfl (by first | exact .inl rfl | exact .inr rfl)) (rss_one (rs_if (rt_cmp og_gt (re_ix (re_var 3) re_int) re_int) (rss_one (rs_expr (re_bm PySem.F.plainAttrs_list PySem.F.slot_list_append PySem.F.type_list_append om_append (re_var 5) (ra_cons (re_call ih__law_row (hr.mono (by omega)) (by rfl) T.t__law_row.g T.t__law_row.F.kp T.t__law_row.b tk (ra_cons (re_var 0) (ra_cons (re_var 1) (ra_cons (re_var 2) (ra_cons (re_var 3) (ra_cons (re_var 4) ra_nil))))) (aC_len (aC_len (aC_len (aC_len (aC_len aN_len)))))) ra_nil)))) rss_nil)))
           (rss_one (rs_ret (re_callTy cr_tuple (by rfl) T.n_tuple (by decide +kernel) (ra_cons (re_var 5) ra_nil))))))
theorem ok__law_row (T : Tx K mg) (d : Nat) : FnOk P w K mg base (L2.CX P w) (5 + d) T.t__law_row.a T.t__law_row.d ["_law_tray_here", "_law_own", "_law_heads", "_law_left", "_law_deep"] (spD K mg 5 (m__law_row d)) := (okg__law_row T d).1
theorem ok__law_rows (T : Tx K mg) (d : Nat) : FnOk P w K mg base (L2.CX P w) (5 + d) T.t__law_rows.a T.t__law_rows.d ["_law_tray_here", "_law_own", "_law_heads", "_law_left", "_law_deep"] (spD K mg 5 (m__law_rows d)) := (okg__law_row T d).2
theorem ok__law_program (T : Tx K mg) : FnOk P w K mg base (L2.CX P w) 14 T.t__law_program.a T.t__law_program.d ["_law_tray_here", "_law_wide"] (spD K mg 2 m__law_program) := fn_body (k := 13) T.t__law_program.F sc__law_program rfl fun cdv A outer s H Q E hr => by
    have nd := sc__law_program.nd
    have hu1 := hu_of hr
    have hu64 := hr.units
    have hu65 := hu65_of hr
    have tk := takes_of (X := cxOf (L2.CX P w) P w K mg base ["_law_tray_here", "_law_wide", "_law_heads", "_law_name_here", "_law_few", "_law_found", "_law_parameters", "_law_own", "_law_left", "_law_rows_here"] "_law_program" (defScope (topS 29)) T.t__law_program.a cdv A outer s H E) (E := E) rfl rfl rfl rfl
    exact (rss_cons (rs_set 2 nd rfl (by first | exact .inl rfl | exact .inr rfl) (re_lst (ra_cons (re_tup (ra_cons re_str (ra_cons (re_tup ra_nil) ra_nil))) ra_nil)))
      (rss_cons (rs_for (passes_of rfl) rfl (ri_seq (re_call (ok__law_names T) (hr.mono (by omega)) (by rfl) T.t__law_names.g T.t__law_names.F.kp T.t__law_names.b tk (ra_cons (re_var 0) (ra_cons (re_call (ok__law_draw T) (hr.mono (by omega)) (by rfl) T.t__law_draw.g T.t__law_draw.F.kp T.t__law_draw.b tk (ra_cons (re_var 0) (ra_cons (re_ix (re_lst (ra_cons re_int (ra_cons re_int ra_nil))) (re_var 1)) ra_nil)) (aC_len (aC_len aN_len))) (ra_cons (re_lst ra_nil) ra_nil))) (aC_len (aC_len (aC_len aN_len))))) (rg_name 3 nd rfl (by first | exact .inl rfl | exact .inr rfl)) (rss_cons (rs_set 6 nd rfl (by first | exact .inl rfl | exact .inr rfl) (re_callTy cr_tuple (by rfl) T.n_tuple (by decide +kernel) (ra_cons (re_call (ok__law_names T) (hr.mono (by omega)) (by rfl) T.t__law_names.g T.t__law_names.F.kp T.t__law_names.b tk (ra_cons (re_var 0) (ra_cons (re_call (ok__law_draw T) (hr.mono (by omega)) (by rfl) T.t__law_draw.g T.t__law_draw.F.kp T.t__law_draw.b tk (ra_cons (re_var 0) (ra_cons (re_ix (re_lst (ra_cons re_int (ra_cons re_int ra_nil))) (re_var 1)) ra_nil)) (aC_len (aC_len aN_len))) (ra_cons (re_lst ra_nil) ra_nil))) (aC_len (aC_len (aC_len aN_len)))) ra_nil)))
      (rss_one (rs_expr (re_bm PySem.F.plainAttrs_list PySem.F.slot_list_insert PySem.F.type_list_insert om_insert (re_var 2) (ra_cons (re_call (ok__law_draw T) (hr.mono (by omega)) (by rfl) T.t__law_draw.g T.t__law_draw.F.kp T.t__law_draw.b tk (ra_cons (re_var 0) (ra_cons (re_bin og_add (re_callB cr_len (by rfl) T.n_len (by decide +kernel) (ra_cons (re_var 2) ra_nil)) re_int) ra_nil)) (aC_len (aC_len aN_len))) (ra_cons (re_tup (ra_cons (re_var 3) (ra_cons (re_var 6) ra_nil))) ra_nil)))))))
      (rss_cons (rs_set 4 nd rfl (by first | exact .inl rfl | exact .inr rfl) (re_call (ok__law_names T) (hr.mono (by omega)) (by rfl) T.t__law_names.g T.t__law_names.F.kp T.t__law_names.b tk (ra_cons (re_var 0) (ra_cons (re_bin og_add re_int (re_call (ok__law_draw T) (hr.mono (by omega)) (by rfl) T.t__law_draw.g T.t__law_draw.F.kp T.t__law_draw.b tk (ra_cons (re_var 0) (ra_cons re_int ra_nil)) (aC_len (aC_len aN_len)))) (ra_cons (re_lst ra_nil) ra_nil))) (aC_len (aC_len (aC_len aN_len)))))
      (rss_cons (rs_set 5 nd rfl (by first | exact .inl rfl | exact .inr rfl) (re_lst ra_nil))
      (rss_cons (rs_for (passes_of rfl) rfl (ri_seq (re_var 2)) (rg_tup rfl (rgs_cons (rg_name 3 nd rfl (by first | exact .inl rfl | exact .inr rfl)) (rgs_cons (rg_name 6 nd rfl (by first | exact .inl rfl | exact .inr rfl)) rgs_nil))) (rss_cons (rs_set 7 nd rfl (by first | exact .inl rfl | exact .inr rfl) (re_bin og_add (re_var 4) (re_callTy cr_list (by rfl) T.n_list (by decide +kernel) (ra_cons (re_var 6) ra_nil))))
      (rss_cons (rs_set 8 nd rfl (by first | exact .inl rfl | exact .inr rfl) (re_lst (ra_cons (re_ix (re_lst (ra_cons re_int (ra_cons re_int ra_nil))) (re_var 1)) ra_nil)))
      (rss_cons (rs_set 9 nd rfl (by first | exact .inl rfl | exact .inr rfl) (re_bin og_add (re_call (ok__law_rows T 8) (hr.mono (by omega)) (by rfl) T.t__law_rows.g T.t__law_rows.F.kp T.t__law_rows.b tk (ra_cons (re_var 0) (ra_cons (re_var 7) (ra_cons (re_var 2) (ra_cons (re_var 8) (ra_cons re_int ra_nil))))) (aC_len (aC_len (aC_len (aC_len (aC_len aN_len)))))) (re_call (ok__law_rows T 8) (hr.mono (by omega)) (by rfl) T.t__law_rows.g T.t__law_rows.F.kp T.t__law_rows.b tk (ra_cons (re_var 0) (ra_cons (re_var 7) (ra_cons (re_var 2) (ra_cons (re_var 8) (ra_cons re_int ra_nil))))) (aC_len (aC_len (aC_len (aC_len (aC_len aN_len))))))))
      (rss_one (rs_expr (re_bm PySem.F.plainAttrs_list PySem.F.slot_list_append PySem.F.type_list_append om_append (re_var 5) (ra_cons (re_tup (ra_cons (re_var 3) (ra_cons (re_var 6) (ra_cons (re_var 9) ra_nil)))) ra_nil))))))))
      (rss_one (rs_ret (re_var 5))))))))
theorem ok__law_each (T : Tx K mg) : FnOk P w K mg base (L2.CX P w) 1 T.t__law_each.a T.t__law_each.d ["_law_rows_here"] (spD K mg 1 m__law_each) := fn_body (k := 0) T.t__law_each.F sc__law_each rfl fun cdv A outer s H Q E hr => by
    have nd := sc__law_each.nd
    have hu1 := hu_of hr
    have hu64 := hr.units
    have hu65 := hu65_of hr
    have tk := takes_of (X := cxOf (L2.CX P w) P w K mg base ["_law_rows_here", "_law_found", "_law_left", "_law_row_here"] "_law_each" (defScope (topS 30)) T.t__law_each.a cdv A outer s H E) (E := E) rfl rfl rfl rfl
    exact (rss_cons (rs_set 1 nd rfl (by first | exact .inl rfl | exact .inr rfl) (re_lst ra_nil))
      (rss_cons (rs_set 2 nd rfl (by first | exact .inl rfl | exact .inr rfl) (re_callTy cr_list (by rfl) T.n_list (by decide +kernel) (ra_cons (re_var 0) ra_nil)))
      (rss_cons (rs_while (passes_of rfl) (rt_cmp (og_ne hu64) (re_var 2) (re_lst ra_nil)) (rss_cons (rs_set 3 nd rfl (by first | exact .inl rfl | exact .inr rfl) (re_bm PySem.F.plainAttrs_list PySem.F.slot_list_pop PySem.F.type_list_pop om_pop (re_var 2) (ra_cons re_int ra_nil)))
      (rss_cons (rs_expr (re_bm PySem.F.plainAttrs_list PySem.F.slot_list_append PySem.F.type_list_append om_append (re_var 1) (ra_cons (re_var 3) ra_nil)))
      (rss_one (rs_if (rt_cmp (og_eq hu64) (re_ix (re_var 3) re_int) re_str) (rss_one (rs_set 2 nd rfl (by first | exact .inl rfl | exact .inr rfl) (re_bin og_add (re_bin og_add (re_callTy cr_list (by rfl) T.n_list (by decide +kernel) (ra_cons (re_ix (re_var 3) re_int) ra_nil)) (re_callTy cr_list (by rfl) T.n_list (by decide +kernel) (ra_cons (re_ix (re_var 3) re_int) ra_nil))) (re_var 2)))) rss_nil)))))
      (rss_one (rs_ret (re_var 1))))))
theorem ok__law_is_name (T : Tx K mg) : FnOk P w K mg base (L2.CX P w) 1 T.t__law_is_name.a T.t__law_is_name.d ["_law_text"] (spD K mg 1 m__law_is_name) := fn_body (k := 0) T.t__law_is_name.F sc__law_is_name rfl fun cdv A outer s H Q E hr => by
    have nd := sc__law_is_name.nd
    have hu1 := hu_of hr
    have hu64 := hr.units
    have hu65 := hu65_of hr
    have tk := takes_of (X := cxOf (L2.CX P w) P w K mg base ["_law_text", "_law_sign"] "_law_is_name" (defScope (topS 31)) T.t__law_is_name.a cdv A outer s H E) (E := E) rfl rfl rfl rfl
    exact (rss_one (rs_ret (re_and (re_chain og_lt og_lt re_int (re_callB cr_len (by rfl) T.n_len (by decide +kernel) (ra_cons (re_var 0) ra_nil)) re_int) (re_one (re_cmp (og_eq hu64) (re_lc (own := [("_law_sign", 1)]) rfl nd (ri_seq (re_var 0)) (blkOk_by (own := [("_law_sign", 1)]) (N := ["_law_text", "_law_sign"]) (sc := defScope (topS 31)) (by decide +kernel)) (fun _ _ _ _ _ => (rg_name 1 nd rfl (by first | exact .inl rfl | exact .inr rfl))) (fun _ _ _ _ _ => (rts_one (rt_cmp (og_notIn hu65) (re_var 1) re_str))) (fun _ _ _ _ _ => (re_var 1)) (by decide)) (re_lst ra_nil))))))
theorem ok__law_in_row (T : Tx K mg) : FnOk P w K mg base (L2.CX P w) 1 T.t__law_in_row.a T.t__law_in_row.d ["_law_row_here"] (spD K mg 1 m__law_in_row) := fn_body (k := 0) T.t__law_in_row.F sc__law_in_row rfl fun cdv A outer s H Q E hr => by
    have nd := sc__law_in_row.nd
    have hu1 := hu_of hr
    have hu64 := hr.units
    have hu65 := hu65_of hr
    have tk := takes_of (X := cxOf (L2.CX P w) P w K mg base ["_law_row_here", "_law_found", "_law_calls"] "_law_in_row" (defScope (topS 32)) T.t__law_in_row.a cdv A outer s H E) (E := E) rfl rfl rfl rfl
    exact (rss_cons (rs_set 1 nd rfl (by first | exact .inl rfl | exact .inr rfl) (re_lst (ra_cons (re_ix (re_var 0) re_int) ra_nil)))
      (rss_cons (rs_set 2 nd rfl (by first | exact .inl rfl | exact .inr rfl) (re_lst ra_nil))
      (rss_cons (rs_if (rt_of (rw_and (rt_cmp (og_eq hu64) (re_ix (re_var 0) re_int) re_str) (rw_and1 (rt_cmp (og_eq hu64) (re_ix (re_ix (re_var 0) re_int) re_int) re_str)))) (rss_cons (rs_expr (re_bm PySem.F.plainAttrs_list PySem.F.slot_list_append PySem.F.type_list_append om_append (re_var 2) (ra_cons (re_ix (re_var 0) re_int) ra_nil)))
      (rss_one (rs_set 1 nd rfl (by first | exact .inl rfl | exact .inr rfl) (re_bin og_add (re_var 1) (re_callTy cr_list (by rfl) T.n_list (by decide +kernel) (ra_cons (re_ix (re_ix (re_var 0) re_int) re_int) ra_nil)))))) (rss_one (rs_if (rt_of (rw_and (rt_cmp (og_eq hu64) (re_ix (re_var 0) re_int) re_str) (rw_and1 (rt_cmp (og_ne hu64) (re_ix (re_ix (re_var 0) re_int) re_int) re_str)))) (rss_one (rs_set 1 nd rfl (by first | exact .inl rfl | exact .inr rfl) (re_bin og_add (re_var 1) (re_callTy cr_list (by rfl) T.n_list (by decide +kernel) (ra_cons (re_slice (re_ix (re_var 0) re_int) (ro_some re_int) ro_none) ra_nil))))) rss_nil)))
      (rss_one (rs_ret (re_lst (ra_cons (re_var 1) (ra_cons (re_var 2) ra_nil))))))))
theorem ok__law_is_faulty (T : Tx K mg) : FnOk P w K mg base (L2.CX P w) 2 T.t__law_is_faulty.a T.t__law_is_faulty.d ["_law_some", "_law_at"] (spD K mg 2 m__law_is_faulty) := fn_body (k := 1) T.t__law_is_faulty.F sc__law_is_faulty rfl fun cdv A outer s H Q E hr => by
    have nd := sc__law_is_faulty.nd
    have hu1 := hu_of hr
    have hu64 := hr.units
    have hu65 := hu65_of hr
    have tk := takes_of (X := cxOf (L2.CX P w) P w K mg base ["_law_some", "_law_at", "_law_heads", "_law_row_here", "_law_name_here", "_law_parameters", "_law_rows_here", "_law_names_here", "_law_calls", "_law_one", "_law_more", "_law_body"] "_law_is_faulty" (defScope (topS 33)) T.t__law_is_faulty.a cdv A outer s H E) (E := E) rfl rfl rfl rfl
    exact (rss_cons (rs_asg (re_ix (re_var 0) (re_var 1)) (rg_tup rfl (rgs_cons (rg_name 4 nd rfl (by first | exact .inl rfl | exact .inr rfl)) (rgs_cons (rg_name 5 nd rfl (by first | exact .inl rfl | exact .inr rfl)) (rgs_cons (rg_name 6 nd rfl (by first | exact .inl rfl | exact .inr rfl)) rgs_nil)))))
      (rss_cons (rs_set 2 nd rfl (by first | exact .inl rfl | exact .inr rfl) (re_callTy (cr_dictL rfl) (by rfl) T.n_dict (by decide +kernel) (ra_cons (re_lc (own := [("_law_one", 9), ("_law_more", 10), ("_law_body", 11)]) rfl nd (ri_seq (re_revA (re_var 0))) (blkOk_by (own := [("_law_one", 9), ("_law_more", 10), ("_law_body", 11)]) (N := ["_law_some", "_law_at", "_law_heads", "_law_row_here", "_law_name_here", "_law_parameters", "_law_rows_here", "_law_names_here", "_law_calls", "_law_one", "_law_more", "_law_body"]) (sc := defScope (topS 33)) (by decide +kernel)) (fun _ _ _ _ _ => (rg_tup rfl (rgs_cons (rg_name 9 nd rfl (by first | exact .inl rfl | exact .inr rfl)) (rgs_cons (rg_name 10 nd rfl (by first | exact .inl rfl | exact .inr rfl)) (rgs_cons (rg_name 11 nd rfl (by first | exact .inl rfl | exact .inr rfl)) rgs_nil))))) (fun _ _ _ _ _ => rts_nil) (fun _ _ _ _ _ => (re_tup (ra_cons (re_var 9) (ra_cons (re_var 10) ra_nil)))) (by decide)) ra_nil)))
      (rss_cons (rs_if (rt_of (rw_or (rt_not (rt_tru (re_call (ok__law_is_name T) (hr.mono (by omega)) (by rfl) T.t__law_is_name.g T.t__law_is_name.F.kp T.t__law_is_name.b tk (ra_cons (re_var 4) ra_nil) (aC_len aN_len)))) (rw_or1 (rt_cmp (og_in hu65) (re_var 4) (re_lc (own := [("_law_one", 9)]) rfl nd (ri_seq (re_slice (re_var 0) ro_none (ro_some (re_var 1)))) (blkOk_by (own := [("_law_one", 9)]) (N := ["_law_some", "_law_at", "_law_heads", "_law_row_here", "_law_name_here", "_law_parameters", "_law_rows_here", "_law_names_here", "_law_calls", "_law_one", "_law_more", "_law_body"]) (sc := defScope (topS 33)) (by decide +kernel)) (fun _ _ _ _ _ => (rg_name 9 nd rfl (by first | exact .inl rfl | exact .inr rfl))) (fun _ _ _ _ _ => rts_nil) (fun _ _ _ _ _ => (re_ix (re_var 9) re_int)) (by decide)))))) (rss_one (rs_ret re_bl)) rss_nil)
      (rss_cons (rs_if (rt_cmp (og_ne hu64) (re_lc (own := [("_law_one", 9)]) rfl nd (ri_seq (re_var 5)) (blkOk_by (own := [("_law_one", 9)]) (N := ["_law_some", "_law_at", "_law_heads", "_law_row_here", "_law_name_here", "_law_parameters", "_law_rows_here", "_law_names_here", "_law_calls", "_law_one", "_law_more", "_law_body"]) (sc := defScope (topS 33)) (by decide +kernel)) (fun _ _ _ _ _ => (rg_name 9 nd rfl (by first | exact .inl rfl | exact .inr rfl))) (fun _ _ _ _ _ => (rts_one (rt_of (rw_or (rt_not (rt_tru (re_call (ok__law_is_name T) (hr.mono (by omega)) (by rfl) T.t__law_is_name.g T.t__law_is_name.F.kp T.t__law_is_name.b takes0 (ra_cons (re_var 9) ra_nil) (aC_len aN_len)))) (rw_or1 (rt_cmp og_gt (re_tm PySem.F.slot_tuple_count PySem.F.type_tuple_count om_tcount (re_var 5) (ra_cons (re_var 9) ra_nil)) re_int)))))) (fun _ _ _ _ _ => (re_var 9)) (by decide)) (re_lst ra_nil)) (rss_one (rs_ret re_bl)) rss_nil)
      (rss_cons (rs_for (passes_of rfl) rfl (ri_seq (re_call (ok__law_each T) (hr.mono (by omega)) (by rfl) T.t__law_each.g T.t__law_each.F.kp T.t__law_each.b tk (ra_cons (re_var 6) ra_nil) (aC_len aN_len))) (rg_name 3 nd rfl (by first | exact .inl rfl | exact .inr rfl)) (rss_cons (rs_asgL (re_call (ok__law_in_row T) (hr.mono (by omega)) (by rfl) T.t__law_in_row.g T.t__law_in_row.F.kp T.t__law_in_row.b tk (ra_cons (re_var 3) ra_nil) (aC_len aN_len)) (rgs_cons (rg_name 7 nd rfl (by first | exact .inl rfl | exact .inr rfl)) (rgs_cons (rg_name 8 nd rfl (by first | exact .inl rfl | exact .inr rfl)) rgs_nil)))
      (rss_cons (rs_if (rt_cmp (og_ne hu64) (re_lc (own := [("_law_one", 9)]) rfl nd (ri_seq (re_var 7)) (blkOk_by (own := [("_law_one", 9)]) (N := ["_law_some", "_law_at", "_law_heads", "_law_row_here", "_law_name_here", "_law_parameters", "_law_rows_here", "_law_names_here", "_law_calls", "_law_one", "_law_more", "_law_body"]) (sc := defScope (topS 33)) (by decide +kernel)) (fun _ _ _ _ _ => (rg_name 9 nd rfl (by first | exact .inl rfl | exact .inr rfl))) (fun _ _ _ _ _ => (rts_one (rt_not (rt_tru (re_call (ok__law_is_name T) (hr.mono (by omega)) (by rfl) T.t__law_is_name.g T.t__law_is_name.F.kp T.t__law_is_name.b takes0 (ra_cons (re_var 9) ra_nil) (aC_len aN_len)))))) (fun _ _ _ _ _ => (re_var 9)) (by decide)) (re_lst ra_nil)) (rss_one (rs_ret re_bl)) rss_nil)
      (rss_one (rs_if (rt_cmp (og_ne hu64) (re_lc (own := [("_law_one", 9)]) rfl nd (ri_seq (re_var 8)) (blkOk_by (own := [("_law_one", 9)]) (N := ["_law_some", "_law_at", "_law_heads", "_law_row_here", "_law_name_here", "_law_parameters", "_law_rows_here", "_law_names_here", "_law_calls", "_law_one", "_law_more", "_law_body"]) (sc := defScope (topS 33)) (by decide +kernel)) (fun _ _ _ _ _ => (rg_name 9 nd rfl (by first | exact .inl rfl | exact .inr rfl))) (fun _ _ _ _ _ => (rts_one (rt_of (rw_or (rt_cmp (og_notIn hu65) (re_ix (re_var 9) re_int) (re_var 2)) (rw_or1 (rt_cmp (og_ne hu64) (re_callB cr_len (by rfl) T.n_len (by decide +kernel) (ra_cons (re_dget hu1 (re_var 2) (re_ix (re_var 9) re_int)) ra_nil)) (re_callB cr_len (by rfl) T.n_len (by decide +kernel) (ra_cons (re_ix (re_var 9) re_int) ra_nil)))))))) (fun _ _ _ _ _ => (re_var 9)) (by decide)) (re_lst ra_nil)) (rss_one (rs_ret re_bl)) rss_nil)))))
      (rss_one (rs_ret re_bl)))))))
theorem ok__law_due (T : Tx K mg) : FnOk P w K mg base (L2.CX P w) 3 T.t__law_due.a T.t__law_due.d ["_law_some"] (spD K mg 1 m__law_due) := fn_body (k := 2) T.t__law_due.F sc__law_due rfl fun cdv A outer s H Q E hr => by
    have nd := sc__law_due.nd
    have hu1 := hu_of hr
    have hu64 := hr.units
    have hu65 := hu65_of hr
    have tk := takes_of (X := cxOf (L2.CX P w) P w K mg base ["_law_some", "_law_faulty", "_law_at", "_law_one"] "_law_due" (defScope (topS 34)) T.t__law_due.a cdv A outer s H E) (E := E) rfl rfl rfl rfl
    exact (rss_cons (rs_setLc 1 (own := [("_law_at", 2)]) rfl nd rfl rfl (sw_true rfl rfl rfl (by decide +kernel)) (ri_range1 (by rfl) T.n_range (re_callB cr_len (by rfl) T.n_len (by decide +kernel) (ra_cons (re_var 0) ra_nil))) (blkOk_by (own := [("_law_at", 2)]) (N := ["_law_some", "_law_faulty", "_law_at", "_law_one"]) (sc := defScope (topS 34)) (by decide +kernel)) (fun _ _ _ _ _ => (rg_name 2 nd rfl (by first | exact .inl rfl | exact .inr rfl))) (fun _ _ _ _ _ => (rts_one (rt_tru (re_call (ok__law_is_faulty T) (hr.mono (by omega)) (by rfl) T.t__law_is_faulty.g T.t__law_is_faulty.F.kp T.t__law_is_faulty.b takes0 (ra_cons (re_var 0) (ra_cons (re_var 2) ra_nil)) (aC_len (aC_len aN_len)))))) (fun _ _ _ _ _ => (re_ix (re_ix (re_var 0) (re_var 2)) re_int)) (by decide))
      (rss_cons (rs_if (rt_cmp (og_ne hu64) (re_var 1) (re_lst ra_nil)) (rss_one (rs_ret (re_slice (re_var 1) ro_none (ro_some re_int)))) rss_nil)
      (rss_one (rs_ret (re_if (rt_cmp (og_ne hu64) (re_lc (own := [("_law_one", 3)]) rfl nd (ri_seq (re_var 0)) (blkOk_by (own := [("_law_one", 3)]) (N := ["_law_some", "_law_faulty", "_law_at", "_law_one"]) (sc := defScope (topS 34)) (by decide +kernel)) (fun _ _ _ _ _ => (rg_name 3 nd rfl (by first | exact .inl rfl | exact .inr rfl))) (fun _ _ _ _ _ => (rts_one (rt_cmp (og_eq hu64) (re_slice (re_var 3) ro_none (ro_some re_int)) (re_tup (ra_cons re_str (ra_cons (re_tup ra_nil) ra_nil)))))) (fun _ _ _ _ _ => (re_var 3)) (by decide)) (re_lst ra_nil)) (re_lst ra_nil) (re_lst (ra_cons re_non ra_nil)))))))
theorem ok__law_bad_name (T : Tx K mg) : FnOk P w K mg base (L2.CX P w) 2 T.t__law_bad_name.a T.t__law_bad_name.d ["_law_tray_here", "_law_names_here"] (spD K mg 2 m__law_bad_name) := fn_body (k := 1) T.t__law_bad_name.F sc__law_bad_name rfl fun cdv A outer s H Q E hr => by
    have nd := sc__law_bad_name.nd
    have hu1 := hu_of hr
    have hu64 := hr.units
    have hu65 := hu65_of hr
    have tk := takes_of (X := cxOf (L2.CX P w) P w K mg base ["_law_tray_here", "_law_names_here", "_law_odd"] "_law_bad_name" (defScope (topS 35)) T.t__law_bad_name.a cdv A outer s H E) (E := E) rfl rfl rfl rfl
    exact (rss_cons (rs_set 2 nd rfl (by first | exact .inl rfl | exact .inr rfl) (re_lst (ra_cons re_str (ra_cons re_str (ra_cons re_str (ra_cons re_str (ra_cons re_str (ra_cons re_str (ra_cons re_str (ra_cons re_str (ra_cons re_str ra_nil)))))))))))
      (rss_one (rs_ret (re_ix (re_bin og_add (re_var 2) (re_var 1)) (re_call (ok__law_draw T) (hr.mono (by omega)) (by rfl) T.t__law_draw.g T.t__law_draw.F.kp T.t__law_draw.b tk (ra_cons (re_var 0) (ra_cons (re_bin og_add re_int (re_callB cr_len (by rfl) T.n_len (by decide +kernel) (ra_cons (re_var 1) ra_nil))) ra_nil)) (aC_len (aC_len aN_len)))))))
theorem ok__law_row_spoilt (T : Tx K mg) : FnOk P w K mg base (L2.CX P w) 3 T.t__law_row_spoilt.a T.t__law_row_spoilt.d ["_law_tray_here", "_law_row_here", "_law_names_here"] (spD K mg 3 m__law_row_spoilt) := fn_body (k := 2) T.t__law_row_spoilt.F sc__law_row_spoilt rfl fun cdv A outer s H Q E hr => by
    have nd := sc__law_row_spoilt.nd
    have hu1 := hu_of hr
    have hu64 := hr.units
    have hu65 := hu65_of hr
    have tk := takes_of (X := cxOf (L2.CX P w) P w K mg base ["_law_tray_here", "_law_row_here", "_law_names_here", "_law_some", "_law_word", "_law_called", "_law_given"] "_law_row_spoilt" (defScope (topS 36)) T.t__law_row_spoilt.a cdv A outer s H E) (E := E) rfl rfl rfl rfl
    exact (rss_cons (rs_if (rt_of (rw_and (rt_cmp (og_eq hu64) (re_ix (re_var 1) re_int) re_str) (rw_and (rt_cmp (og_eq hu64) (re_ix (re_ix (re_var 1) re_int) re_int) re_str) (rw_and1 (rt_cmp (og_eq hu64) (re_call (ok__law_draw T) (hr.mono (by omega)) (by rfl) T.t__law_draw.g T.t__law_draw.F.kp T.t__law_draw.b tk (ra_cons (re_var 0) (ra_cons re_int ra_nil)) (aC_len (aC_len aN_len))) re_int))))) (rss_cons (rs_asg (re_ix (re_var 1) re_int) (rg_tup rfl (rgs_cons (rg_name 4 nd rfl (by first | exact .inl rfl | exact .inr rfl)) (rgs_cons (rg_name 5 nd rfl (by first | exact .inl rfl | exact .inr rfl)) (rgs_cons (rg_name 6 nd rfl (by first | exact .inl rfl | exact .inr rfl)) rgs_nil)))))
      (rss_cons (rs_set 3 nd rfl (by first | exact .inl rfl | exact .inr rfl) (re_lst (ra_cons (re_tup (ra_cons (re_var 4) (ra_cons (re_var 5) (ra_cons (re_bin og_add (re_var 6) (re_tup (ra_cons re_str ra_nil))) ra_nil)))) (ra_cons (re_tup (ra_cons (re_var 4) (ra_cons (re_var 5) (ra_cons (re_slice (re_var 6) (ro_some re_int) ro_none) ra_nil)))) (ra_cons (re_tup (ra_cons (re_var 4) (ra_cons (re_call (ok__law_bad_name T) (hr.mono (by omega)) (by rfl) T.t__law_bad_name.g T.t__law_bad_name.F.kp T.t__law_bad_name.b tk (ra_cons (re_var 0) (ra_cons (re_var 2) ra_nil)) (aC_len (aC_len aN_len))) (ra_cons (re_var 6) ra_nil)))) ra_nil)))))
      (rss_one (rs_ret (re_tup (ra_cons (re_ix (re_var 1) re_int) (ra_cons (re_ix (re_var 1) re_int) (ra_cons (re_ix (re_var 3) (re_call (ok__law_draw T) (hr.mono (by omega)) (by rfl) T.t__law_draw.g T.t__law_draw.F.kp T.t__law_draw.b tk (ra_cons (re_var 0) (ra_cons re_int ra_nil)) (aC_len (aC_len aN_len)))) ra_nil)))))))) rss_nil)
      (rss_cons (rs_if (rt_of (rw_and (rt_cmp (og_eq hu64) (re_ix (re_var 1) re_int) re_str) (rw_and (rt_cmp (og_in hu65) (re_ix (re_ix (re_var 1) re_int) re_int) (re_lst (ra_cons re_str (ra_cons re_str ra_nil)))) (rw_and1 (rt_cmp (og_eq hu64) (re_call (ok__law_draw T) (hr.mono (by omega)) (by rfl) T.t__law_draw.g T.t__law_draw.F.kp T.t__law_draw.b tk (ra_cons (re_var 0) (ra_cons re_int ra_nil)) (aC_len (aC_len aN_len))) re_int))))) (rss_one (rs_ret (re_tup (ra_cons (re_ix (re_var 1) re_int) (ra_cons (re_ix (re_var 1) re_int) (ra_cons (re_tup (ra_cons (re_ix (re_ix (re_var 1) re_int) re_int) (ra_cons (re_call (ok__law_bad_name T) (hr.mono (by omega)) (by rfl) T.t__law_bad_name.g T.t__law_bad_name.F.kp T.t__law_bad_name.b tk (ra_cons (re_var 0) (ra_cons (re_var 2) ra_nil)) (aC_len (aC_len aN_len))) ra_nil))) ra_nil)))))) rss_nil)
      (rss_one (rs_ret (re_bin og_add (re_bin og_add (re_slice (re_var 1) ro_none (ro_some re_int)) (re_tup (ra_cons (re_call (ok__law_bad_name T) (hr.mono (by omega)) (by rfl) T.t__law_bad_name.g T.t__law_bad_name.F.kp T.t__law_bad_name.b tk (ra_cons (re_var 0) (ra_cons (re_var 2) ra_nil)) (aC_len (aC_len aN_len))) ra_nil))) (re_slice (re_var 1) (ro_some re_int) ro_none))))))
theorem ok__law_rows_spoilt (T : Tx K mg) : ∀ d : Nat, FnOk P w K mg base (L2.CX P w) (4 + d) T.t__law_rows_spoilt.a T.t__law_rows_spoilt.d ["_law_tray_here", "_law_rows_here", "_law_names_here", "_law_at"] (spD K mg 4 (m__law_rows_spoilt d))
  | 0 => fn_bad
  | d + 1 => by
   have ih__law_rows_spoilt := ok__law_rows_spoilt T d
   exact fn_body (k := 4 + d) T.t__law_rows_spoilt.F sc__law_rows_spoilt rfl fun cdv A outer s H Q E hr => by
       have nd := sc__law_rows_spoilt.nd
       have hu1 := hu_of hr
       have hu64 := hr.units
       have hu65 := hu65_of hr
       have tk := takes_of (X := cxOf (L2.CX P w) P w K mg base ["_law_tray_here", "_law_rows_here", "_law_names_here", "_law_at", "_law_found", "_law_row_here", "_law_ones"] "_law_rows_spoilt" (defScope (topS 37)) T.t__law_rows_spoilt.a cdv A outer s H E) (E := E) rfl rfl rfl rfl
       exact (rss_cons (rs_set 4 nd rfl (by first | exact .inl rfl | exact .inr rfl) (re_lst ra_nil))
         (rss_cons (rs_for (passes_of rfl) rfl (ri_seq (re_var 1)) (rg_name 5 nd rfl (by first | exact .inl rfl | exact .inr rfl)) (rss_cons (rs_sub (re_bin og_sub (re_ix (re_var 3) re_int) re_int) (re_var 3) re_int)
         (rss_cons (rs_if (rt_cmp (og_eq hu64) (re_ix (re_var 3) re_int) (re_neg re_int)) (rss_one (rs_set 5 nd rfl (by first | exact .inl rfl | exact .inr rfl) (re_call (ok__law_row_spoilt T) (hr.mono (by omega)) (by rfl) T.t__law_row_spoilt.g T.t__law_row_spoilt.F.kp T.t__law_row_spoilt.b tk (ra_cons (re_var 0) (ra_cons (re_var 5) (ra_cons (re_var 2) ra_nil))) (aC_len (aC_len (aC_len aN_len)))))) rss_nil)
         (rss_cons (rs_if (rt_cmp (og_eq hu64) (re_ix (re_var 5) re_int) re_str) (rss_cons (rs_set 6 nd rfl (by first | exact .inl rfl | exact .inr rfl) (re_call ih__law_rows_spoilt (hr.mono (by omega)) (by rfl) T.t__law_rows_spoilt.g T.t__law_rows_spoilt.F.kp T.t__law_rows_spoilt.b tk (ra_cons (re_var 0) (ra_cons (re_ix (re_var 5) re_int) (ra_cons (re_var 2) (ra_cons (re_var 3) ra_nil)))) (aC_len (aC_len (aC_len (aC_len aN_len))))))
         (rss_one (rs_set 5 nd rfl (by first | exact .inl rfl | exact .inr rfl) (re_tup (ra_cons (re_ix (re_var 5) re_int) (ra_cons (re_ix (re_var 5) re_int) (ra_cons (re_var 6) (ra_cons (re_call ih__law_rows_spoilt (hr.mono (by omega)) (by rfl) T.t__law_rows_spoilt.g T.t__law_rows_spoilt.F.kp T.t__law_rows_spoilt.b tk (ra_cons (re_var 0) (ra_cons (re_ix (re_var 5) re_int) (ra_cons (re_var 2) (ra_cons (re_var 3) ra_nil)))) (aC_len (aC_len (aC_len (aC_len aN_len))))) ra_nil)))))))) rss_nil)
         (rss_one (rs_expr (re_bm PySem.F.plainAttrs_list PySem.F.slot_list_append PySem.F.type_list_append om_append (re_var 4) (ra_cons (re_var 5) ra_nil))))))))
         (rss_one (rs_ret (re_callTy cr_tuple (by rfl) T.n_tuple (by decide +kernel) (ra_cons (re_var 4) ra_nil))))))
theorem ok__law_spoilt (T : Tx K mg) : FnOk P w K mg base (L2.CX P w) 11 T.t__law_spoilt.a T.t__law_spoilt.d ["_law_tray_here", "_law_some"] (spD K mg 2 m__law_spoilt) := fn_body (k := 10) T.t__law_spoilt.F sc__law_spoilt rfl fun cdv A outer s H Q E hr => by
    have nd := sc__law_spoilt.nd
    have hu1 := hu_of hr
    have hu64 := hr.units
    have hu65 := hu65_of hr
    have tk := takes_of (X := cxOf (L2.CX P w) P w K mg base ["_law_tray_here", "_law_some", "_law_lot", "_law_at", "_law_names_here", "_law_name_here", "_law_parameters", "_law_rows_here", "_law_one"] "_law_spoilt" (defScope (topS 38)) T.t__law_spoilt.a cdv A outer s H E) (E := E) rfl rfl rfl rfl
    exact (rss_cons (rs_set 2 nd rfl (by first | exact .inl rfl | exact .inr rfl) (re_call (ok__law_draw T) (hr.mono (by omega)) (by rfl) T.t__law_draw.g T.t__law_draw.F.kp T.t__law_draw.b tk (ra_cons (re_var 0) (ra_cons re_int ra_nil)) (aC_len (aC_len aN_len))))
      (rss_cons (rs_set 3 nd rfl (by first | exact .inl rfl | exact .inr rfl) (re_call (ok__law_draw T) (hr.mono (by omega)) (by rfl) T.t__law_draw.g T.t__law_draw.F.kp T.t__law_draw.b tk (ra_cons (re_var 0) (ra_cons (re_bin og_add (re_callB cr_len (by rfl) T.n_len (by decide +kernel) (ra_cons (re_var 1) ra_nil)) re_int) ra_nil)) (aC_len (aC_len aN_len))))
      (rss_cons (rs_setLc 4 (own := [("_law_one", 8)]) rfl nd rfl rfl (sw_true rfl rfl rfl (by decide +kernel)) (ri_seq (re_var 1)) (blkOk_by (own := [("_law_one", 8)]) (N := ["_law_tray_here", "_law_some", "_law_lot", "_law_at", "_law_names_here", "_law_name_here", "_law_parameters", "_law_rows_here", "_law_one"]) (sc := defScope (topS 38)) (by decide +kernel)) (fun _ _ _ _ _ => (rg_name 8 nd rfl (by first | exact .inl rfl | exact .inr rfl))) (fun _ _ _ _ _ => rts_nil) (fun _ _ _ _ _ => (re_ix (re_var 8) re_int)) (by decide))
      (rss_cons (rs_if (rt_of (rw_or (rt_cmp (og_eq hu64) (re_var 3) (re_callB cr_len (by rfl) T.n_len (by decide +kernel) (ra_cons (re_var 1) ra_nil))) (rw_or1 (rt_cmp (og_eq hu64) (re_var 2) re_int)))) (rss_one (rs_ret (re_bin og_add (re_slice (re_var 1) ro_none (ro_some (re_var 3))) (re_slice (re_var 1) (ro_some (re_bin og_add (re_var 3) re_int)) ro_none)))) rss_nil)
      (rss_cons (rs_asg (re_ix (re_var 1) (re_var 3)) (rg_tup rfl (rgs_cons (rg_name 5 nd rfl (by first | exact .inl rfl | exact .inr rfl)) (rgs_cons (rg_name 6 nd rfl (by first | exact .inl rfl | exact .inr rfl)) (rgs_cons (rg_name 7 nd rfl (by first | exact .inl rfl | exact .inr rfl)) rgs_nil)))))
      (rss_cons (rs_if (rt_of (rw_and (rt_cmp (og_eq hu64) (re_var 2) re_int) (rw_and1 (rt_cmp og_lt (re_callB cr_len (by rfl) T.n_len (by decide +kernel) (ra_cons (re_var 1) ra_nil)) re_int)))) (rss_one (rs_ret (re_bin og_add (re_bin og_add (re_slice (re_var 1) ro_none (ro_some (re_var 3))) (re_lst (ra_cons (re_ix (re_var 1) (re_var 3)) ra_nil))) (re_slice (re_var 1) (ro_some (re_var 3)) ro_none)))) rss_nil)
      (rss_cons (rs_if (rt_cmp (og_eq hu64) (re_var 2) re_int) (rss_one (rs_set 5 nd rfl (by first | exact .inl rfl | exact .inr rfl) (re_call (ok__law_bad_name T) (hr.mono (by omega)) (by rfl) T.t__law_bad_name.g T.t__law_bad_name.F.kp T.t__law_bad_name.b tk (ra_cons (re_var 0) (ra_cons (re_var 4) ra_nil)) (aC_len (aC_len aN_len))))) rss_nil)
      (rss_cons (rs_if (rt_cmp (og_eq hu64) (re_var 2) re_int) (rss_one (rs_set 6 nd rfl (by first | exact .inl rfl | exact .inr rfl) (re_bin og_add (re_slice (re_var 6) ro_none (ro_some re_int)) (re_slice (re_var 6) ro_none (ro_some re_int))))) rss_nil)
      (rss_cons (rs_if (rt_cmp (og_eq hu64) (re_var 2) re_int) (rss_one (rs_set 6 nd rfl (by first | exact .inl rfl | exact .inr rfl) (re_ix (re_lst (ra_cons (re_slice (re_var 6) (ro_some re_int) ro_none) (ra_cons (re_bin og_add (re_slice (re_var 6) ro_none (ro_some re_int)) (re_tup (ra_cons re_str ra_nil))) (ra_cons (re_bin og_add (re_slice (re_var 6) ro_none (ro_some re_int)) (re_tup (ra_cons re_str ra_nil))) ra_nil)))) (re_call (ok__law_draw T) (hr.mono (by omega)) (by rfl) T.t__law_draw.g T.t__law_draw.F.kp T.t__law_draw.b tk (ra_cons (re_var 0) (ra_cons re_int ra_nil)) (aC_len (aC_len aN_len)))))) rss_nil)
      (rss_cons (rs_if (rt_cmp og_gt (re_var 2) re_int) (rss_one (rs_set 7 nd rfl (by first | exact .inl rfl | exact .inr rfl) (re_call (ok__law_rows_spoilt T 6) (hr.mono (by omega)) (by rfl) T.t__law_rows_spoilt.g T.t__law_rows_spoilt.F.kp T.t__law_rows_spoilt.b tk (ra_cons (re_var 0) (ra_cons (re_var 7) (ra_cons (re_var 4) (ra_cons (re_lst (ra_cons (re_call (ok__law_draw T) (hr.mono (by omega)) (by rfl) T.t__law_draw.g T.t__law_draw.F.kp T.t__law_draw.b tk (ra_cons (re_var 0) (ra_cons (re_callB (cr_max2P rfl) (by rfl) T.n_max (by decide +kernel) (ra_cons re_int (ra_cons (re_callB cr_len (by rfl) T.n_len (by decide +kernel) (ra_cons (re_call (ok__law_each T) (hr.mono (by omega)) (by rfl) T.t__law_each.g T.t__law_each.F.kp T.t__law_each.b tk (ra_cons (re_var 7) ra_nil) (aC_len aN_len)) ra_nil)) ra_nil))) ra_nil)) (aC_len (aC_len aN_len))) ra_nil)) ra_nil)))) (aC_len (aC_len (aC_len (aC_len aN_len))))))) rss_nil)
      (rss_one (rs_ret (re_bin og_add (re_bin og_add (re_slice (re_var 1) ro_none (ro_some (re_var 3))) (re_lst (ra_cons (re_tup (ra_cons (re_var 5) (ra_cons (re_var 6) (ra_cons (re_var 7) ra_nil)))) ra_nil))) (re_slice (re_var 1) (ro_some (re_bin og_add (re_var 3) re_int)) ro_none))))))))))))))
theorem ok__law_refused (T : Tx K mg) : FnOk P w K mg base (L2.CX P w) 13 T.t__law_refused.a T.t__law_refused.d ["_law_some"] (spD K mg 1 m__law_refused) := fn_body (k := 12) T.t__law_refused.F sc__law_refused rfl fun cdv A outer s H Q E hr => by
    have nd := sc__law_refused.nd
    have hu1 := hu_of hr
    have hu64 := hr.units
    have hu65 := hu65_of hr
    have tk := takes_of (X := cxOf (L2.CX P w) P w K mg base ["_law_some", "_law_found", "e"] "_law_refused" (defScope (topS 39)) T.t__law_refused.a cdv A outer s H E) (E := E) rfl rfl rfl rfl
    exact (rss_cons (rs_set 1 nd rfl (by first | exact .inl rfl | exact .inr rfl) re_non)
      (rss_cons (rs_tryAsL (cs := [("NoProgram", true)]) (i := 2) (j := 1) (vs := fun c p => [p, .bl true, .bl true, .bl false]) rfl rfl nd rfl rfl ⟨by rfl, by decide, .inl T.x_NoProgram.g⟩ tk (cs_cons (ex_of T.x_NoProgram.g T.ex_NoProgram_NoProgram) cs_nil) (fun W pn xe tk po => (rss_one (rs_expr (re_make T.mk_Program (ok_Program_init T) (hr.mono (by omega)) (by rfl) T.g_Program T.t_Program_init.b tk (ra_cons (re_var 0) ra_nil) (aC_len aN_len))))) (by decide) rfl (by first | exact .inl rfl | exact .inr rfl) (rx_cons (rx_what (i := 2) rfl (by first | exact Or.inl rfl | exact Or.inr (Or.inl rfl) | exact Or.inr (Or.inr rfl)) (csT (cs_cons (fun _ => ex_of T.x_NoProgram.g ⟨T.xf_NoProgram, T.x_NoProgram.na⟩) cs_nil))) (rx_cons (rx_isi (is := fun _ => true) (i := 2) rfl (by first | exact Or.inl rfl | exact Or.inr (Or.inl rfl) | exact Or.inr (Or.inr rfl)) (by rfl) T.n_isinstance (clsE_own (by rfl) T.x_AskError.g) (.own _) (csT (cs_cons (fun _ => ex_of T.x_NoProgram.g ⟨T.ec_NoProgram, T.ki_NoProgram_AskError⟩) cs_nil))) (rx_cons (rx_isi (is := fun _ => true) (i := 2) rfl (by first | exact Or.inl rfl | exact Or.inr (Or.inl rfl) | exact Or.inr (Or.inr rfl)) (by rfl) T.n_isinstance (clsE_ty (by rfl) T.n_ValueError (by decide +kernel)) (.ty _) (csT (cs_cons (fun _ => ex_of T.x_NoProgram.g ⟨T.ec_NoProgram, T.ki_NoProgram_ValueError⟩) cs_nil))) (rx_cons (rx_isiT (is := fun _ => false) (i := 2) rfl (by first | exact Or.inl rfl | exact Or.inr (Or.inl rfl) | exact Or.inr (Or.inr rfl)) (by rfl) T.n_isinstance (clsL_cons (clsE_own (by rfl) T.x_NoFinding.g) (clsL_cons (clsE_own (by rfl) T.x_NoPlace.g) (clsL_cons (clsE_own (by rfl) T.x_NoRelation.g) (clsL_cons (clsE_own (by rfl) T.x_NoRules.g) (clsL_cons (clsE_own (by rfl) T.x_NoText.g) clsL_nil))))) (.cons (.own _) (.cons (.own _) (.cons (.own _) (.cons (.own _) (.cons (.own _) .nil))))) (by simp) (csT (cs_cons (fun _ => ex_of T.x_NoProgram.g ⟨T.ec_NoProgram, (kitAny_cons T.ki_NoProgram_NoFinding (fun _ => (kitAny_cons T.ki_NoProgram_NoPlace (fun _ => (kitAny_cons T.ki_NoProgram_NoRelation (fun _ => (kitAny_cons T.ki_NoProgram_NoRules (fun _ => (kitAny_cons T.ki_NoProgram_NoText (fun _ => kitAny_nil) (fun z => by cases z))) (fun z => by cases z))) (fun z => by cases z))) (fun z => by cases z))) (fun z => by cases z))⟩) cs_nil))) rx_nil)))))
      (rss_one (rs_ret (re_var 1)))))
theorem ok__law_errors_right (T : Tx K mg) : FnOk P w K mg base (L2.CX P w) 3 T.t__law_errors_right.a T.t__law_errors_right.d ["_law_many"] (spD K mg 1 m__law_errors_right) := fn_body (k := 2) T.t__law_errors_right.F sc__law_errors_right rfl fun cdv A outer s H Q E hr => by
    have nd := sc__law_errors_right.nd
    have hu1 := hu_of hr
    have hu64 := hr.units
    have hu65 := hu65_of hr
    have tk := takes_of (X := cxOf (L2.CX P w) P w K mg base ["_law_many"] "_law_errors_right" (defScope (topS 40)) T.t__law_errors_right.a cdv A outer s H E) (E := E) rfl rfl rfl rfl
    exact (rss_cons (rs_if (rt_of (rw_or (rt_cmp (og_ne hu64) (re_excW T.x_NoPlace T.xf_NoPlace T.i_init (fn_init T.t_einit T.sc_einit T.bo_einit (k := 0)) (hr.mono (by omega)) T.b_einit (by rfl) (re_tup (ra_cons re_str (ra_cons (re_var 0) ra_nil)))) (re_tup (ra_cons re_str (ra_cons (re_var 0) ra_nil)))) (rw_or (rt_cmp (og_ne hu64) (re_excW T.x_NoRules T.xf_NoRules T.i_init (fn_init T.t_einit T.sc_einit T.bo_einit (k := 0)) (hr.mono (by omega)) T.b_einit (by rfl) re_str) re_str) (rw_or1 (rt_cmp (og_ne hu64) (re_excW T.x_NoRelation T.xf_NoRelation T.i_init (fn_init T.t_einit T.sc_einit T.bo_einit (k := 0)) (hr.mono (by omega)) T.b_einit (by rfl) re_str) re_str))))) (rss_one (rs_ret re_bl)) rss_nil)
      (rss_cons (rs_if (rt_of (rw_or (rt_cmp (og_ne hu64) (re_excWKw T.x_NoFinding T.xf_NoFinding T.i_init (fn_init T.t_einit T.sc_einit T.bo_einit (k := 0)) (hr.mono (by omega)) T.kb_einit (fun _ _ => rfl) (by rfl) (re_tup (ra_cons re_str (ra_cons re_int (ra_cons re_str (ra_cons re_int ra_nil)))))) (re_tup (ra_cons re_str (ra_cons re_int (ra_cons re_str (ra_cons re_int ra_nil)))))) (rw_or1 (rt_cmp (og_ne hu64) (re_excW T.x_NoText T.xf_NoText T.i_init (fn_init T.t_einit T.sc_einit T.bo_einit (k := 0)) (hr.mono (by omega)) T.b_einit (by rfl) re_str) re_str)))) (rss_one (rs_ret re_bl)) rss_nil)
      (rss_one (rs_ret (re_and (re_isN (re_excW T.x_NoProgram T.xf_NoProgram T.i_init (fn_init T.t_einit T.sc_einit T.bo_einit (k := 0)) (hr.mono (by omega)) T.b_einit (by rfl) re_non)) (re_one (re_cmp (og_eq hu64) (re_excWKw T.x_NoProgram T.xf_NoProgram T.i_init (fn_init T.t_einit T.sc_einit T.bo_einit (k := 0)) (hr.mono (by omega)) T.kb_einit (fun _ _ => rfl) (by rfl) re_str) re_str)))))))
theorem ok_law (T : Tx K mg) : FnOk P w K mg base (L2.CX P w) 15 T.t_law.a T.t_law.d ["_law_script"] (spD K mg 1 m_law) := fn_body (k := 14) T.t_law.F sc_law rfl fun cdv A outer s H Q E hr => by
    have nd := sc_law.nd
    have hu1 := hu_of hr
    have hu64 := hr.units
    have hu65 := hu65_of hr
    have tk := takes_of (X := cxOf (L2.CX P w) P w K mg base ["_law_script", "_law_tray_here", "_law_k", "_law_some", "_law_j", "_law_due_here", "_law_handed", "_law_found"] "law" (defScope (topS 41)) T.t_law.a cdv A outer s H E) (E := E) rfl rfl rfl rfl
    exact (rss_cons (rs_set 1 nd rfl (by first | exact .inl rfl | exact .inr rfl) (re_call (ok__law_tray T) (hr.mono (by omega)) (by rfl) T.t__law_tray.g T.t__law_tray.F.kp T.t__law_tray.b tk (ra_cons (re_var 0) ra_nil) (aC_len aN_len)))
      (rss_cons (rs_if (rt_not (rt_tru (re_call (ok__law_errors_right T) (hr.mono (by omega)) (by rfl) T.t__law_errors_right.g T.t__law_errors_right.F.kp T.t__law_errors_right.b tk (ra_cons (re_callB cr_len (by rfl) T.n_len (by decide +kernel) (ra_cons (re_var 0) ra_nil)) ra_nil) (aC_len aN_len)))) (rss_one (rs_ret re_bl)) rss_nil)
      (rss_cons (rs_for (passes_of rfl) rfl (ri_range1 (by rfl) T.n_range (re_bin og_add re_int (re_callB cr_len (by rfl) T.n_len (by decide +kernel) (ra_cons (re_slice (re_var 0) ro_none (ro_some re_int)) ra_nil)))) (rg_name 2 nd rfl (by first | exact .inl rfl | exact .inr rfl)) (rss_cons (rs_set 3 nd rfl (by first | exact .inl rfl | exact .inr rfl) (re_call (ok__law_program T) (hr.mono (by omega)) (by rfl) T.t__law_program.g T.t__law_program.F.kp T.t__law_program.b tk (ra_cons (re_var 1) (ra_cons (re_bin og_fdiv (re_call (ok__law_draw T) (hr.mono (by omega)) (by rfl) T.t__law_draw.g T.t__law_draw.F.kp T.t__law_draw.b tk (ra_cons (re_var 1) (ra_cons re_int ra_nil)) (aC_len (aC_len aN_len))) re_int) ra_nil)) (aC_len (aC_len aN_len))))
      (rss_cons (rs_for (passes_of rfl) rfl (ri_range1 (by rfl) T.n_range (re_call (ok__law_draw T) (hr.mono (by omega)) (by rfl) T.t__law_draw.g T.t__law_draw.F.kp T.t__law_draw.b tk (ra_cons (re_var 1) (ra_cons re_int ra_nil)) (aC_len (aC_len aN_len)))) (rg_name 4 nd rfl (by first | exact .inl rfl | exact .inr rfl)) (rss_one (rs_set 3 nd rfl (by first | exact .inl rfl | exact .inr rfl) (re_call (ok__law_spoilt T) (hr.mono (by omega)) (by rfl) T.t__law_spoilt.g T.t__law_spoilt.F.kp T.t__law_spoilt.b tk (ra_cons (re_var 1) (ra_cons (re_var 3) ra_nil)) (aC_len (aC_len aN_len))))))
      (rss_cons (rs_set 5 nd rfl (by first | exact .inl rfl | exact .inr rfl) (re_call (ok__law_due T) (hr.mono (by omega)) (by rfl) T.t__law_due.g T.t__law_due.F.kp T.t__law_due.b tk (ra_cons (re_var 3) ra_nil) (aC_len aN_len)))
      (rss_cons (rs_set 6 nd rfl (by first | exact .inl rfl | exact .inr rfl) (re_callTy cr_list (by rfl) T.n_list (by decide +kernel) (ra_cons (re_var 3) ra_nil)))
      (rss_cons (rs_set 7 nd rfl (by first | exact .inl rfl | exact .inr rfl) (re_call (ok__law_refused T) (hr.mono (by omega)) (by rfl) T.t__law_refused.g T.t__law_refused.F.kp T.t__law_refused.b tk (ra_cons (re_var 6) ra_nil) (aC_len aN_len)))
      (rss_cons (rs_if (rt_of (rw_or (rt_cmp (og_ne hu64) (re_var 6) (re_var 3)) (rw_or1 (rt_of (rw_and (rt_cmp (og_eq hu64) (re_var 5) (re_lst ra_nil)) (rw_and1 (rt_notN (re_var 7)))))))) (rss_one (rs_ret re_bl)) rss_nil)
      (rss_one (rs_if (rt_of (rw_and (rt_cmp (og_ne hu64) (re_var 5) (re_lst ra_nil)) (rw_and1 (rt_cmp (og_ne hu64) (re_var 7) (re_bin og_add (re_var 5) (re_lst (ra_cons re_bl (ra_cons re_bl (ra_cons re_bl ra_nil))))))))) (rss_one (rs_ret re_bl)) rss_nil)))))))))
      (rss_one (rs_ret re_bl)))))
end
set_option maxHeartbeats 4000000 in
/-- the facts that the head finds, put together -/
noncomputable def mkTx {K : PySem.W.Frag} {h : Heap} {mg : Str → Option Value} (X : K.In h) (G : h.Ns mainGlobals mg) {f_is_name : Addr} {oc_is_name kV_is_name dc_is_name pm_is_name cd_is_name ct_is_name : Value} {od_is_name an_is_name : Option Addr} {sl_is_name : Array (Option Value)} {f_each_row : Addr} {oc_each_row kV_each_row dc_each_row pm_each_row cd_each_row ct_each_row : Value} {od_each_row an_each_row : Option Addr} {sl_each_row : Array (Option Value)} {f_names_asked : Addr} {oc_names_asked kV_names_asked dc_names_asked pm_names_asked cd_names_asked ct_names_asked : Value} {od_names_asked an_names_asked : Option Addr} {sl_names_asked : Array (Option Value)} {f_call_of : Addr} {oc_call_of kV_call_of dc_call_of pm_call_of cd_call_of ct_call_of : Value} {od_call_of an_call_of : Option Addr} {sl_call_of : Array (Option Value)} {f_names_in : Addr} {oc_names_in kV_names_in dc_names_in pm_names_in cd_names_in ct_names_in : Value} {od_names_in an_names_in : Option Addr} {sl_names_in : Array (Option Value)} {f_is_sound : Addr} {oc_is_sound kV_is_sound dc_is_sound pm_is_sound cd_is_sound ct_is_sound : Value} {od_is_sound an_is_sound : Option Addr} {sl_is_sound : Array (Option Value)} {f_Program_init : Addr} {oc_Program_init kV_Program_init dc_Program_init pm_Program_init cd_Program_init ct_Program_init : Value} {od_Program_init an_Program_init : Option Addr} {sl_Program_init : Array (Option Value)} {f__law_tray : Addr} {oc__law_tray kV__law_tray dc__law_tray pm__law_tray cd__law_tray ct__law_tray : Value} {od__law_tray an__law_tray : Option Addr} {sl__law_tray : Array (Option Value)} {f__law_draw : Addr} {oc__law_draw kV__law_draw dc__law_draw pm__law_draw cd__law_draw ct__law_draw : Value} {od__law_draw an__law_draw : Option Addr} {sl__law_draw : Array (Option Value)} {f__law_great : Addr} {oc__law_great kV__law_great dc__law_great pm__law_great cd__law_great ct__law_great : Value} {od__law_great an__law_great : Option Addr} {sl__law_great : Array (Option Value)} {f__law_name : Addr} {oc__law_name kV__law_name dc__law_name pm__law_name cd__law_name ct__law_name : Value} {od__law_name an__law_name : Option Addr} {sl__law_name : Array (Option Value)} {f__law_names : Addr} {oc__law_names kV__law_names dc__law_names pm__law_names cd__law_names ct__law_names : Value} {od__law_names an__law_names : Option Addr} {sl__law_names : Array (Option Value)} {f__law_whole : Addr} {oc__law_whole kV__law_whole dc__law_whole pm__law_whole cd__law_whole ct__law_whole : Value} {od__law_whole an__law_whole : Option Addr} {sl__law_whole : Array (Option Value)} {f__law_value : Addr} {oc__law_value kV__law_value dc__law_value pm__law_value cd__law_value ct__law_value : Value} {od__law_value an__law_value : Option Addr} {sl__law_value : Array (Option Value)} {f__law_row : Addr} {oc__law_row kV__law_row dc__law_row pm__law_row cd__law_row ct__law_row : Value} {od__law_row an__law_row : Option Addr} {sl__law_row : Array (Option Value)} {f__law_rows : Addr} {oc__law_rows kV__law_rows dc__law_rows pm__law_rows cd__law_rows ct__law_rows : Value} {od__law_rows an__law_rows : Option Addr} {sl__law_rows : Array (Option Value)} {f__law_program : Addr} {oc__law_program kV__law_program dc__law_program pm__law_program cd__law_program ct__law_program : Value} {od__law_program an__law_program : Option Addr} {sl__law_program : Array (Option Value)} {f__law_each : Addr} {oc__law_each kV__law_each dc__law_each pm__law_each cd__law_each ct__law_each : Value} {od__law_each an__law_each : Option Addr} {sl__law_each : Array (Option Value)} {f__law_is_name : Addr} {oc__law_is_name kV__law_is_name dc__law_is_name pm__law_is_name cd__law_is_name ct__law_is_name : Value} {od__law_is_name an__law_is_name : Option Addr} {sl__law_is_name : Array (Option Value)} {f__law_in_row : Addr} {oc__law_in_row kV__law_in_row dc__law_in_row pm__law_in_row cd__law_in_row ct__law_in_row : Value} {od__law_in_row an__law_in_row : Option Addr} {sl__law_in_row : Array (Option Value)} {f__law_is_faulty : Addr} {oc__law_is_faulty kV__law_is_faulty dc__law_is_faulty pm__law_is_faulty cd__law_is_faulty ct__law_is_faulty : Value} {od__law_is_faulty an__law_is_faulty : Option Addr} {sl__law_is_faulty : Array (Option Value)} {f__law_due : Addr} {oc__law_due kV__law_due dc__law_due pm__law_due cd__law_due ct__law_due : Value} {od__law_due an__law_due : Option Addr} {sl__law_due : Array (Option Value)} {f__law_bad_name : Addr} {oc__law_bad_name kV__law_bad_name dc__law_bad_name pm__law_bad_name cd__law_bad_name ct__law_bad_name : Value} {od__law_bad_name an__law_bad_name : Option Addr} {sl__law_bad_name : Array (Option Value)} {f__law_row_spoilt : Addr} {oc__law_row_spoilt kV__law_row_spoilt dc__law_row_spoilt pm__law_row_spoilt cd__law_row_spoilt ct__law_row_spoilt : Value} {od__law_row_spoilt an__law_row_spoilt : Option Addr} {sl__law_row_spoilt : Array (Option Value)} {f__law_rows_spoilt : Addr} {oc__law_rows_spoilt kV__law_rows_spoilt dc__law_rows_spoilt pm__law_rows_spoilt cd__law_rows_spoilt ct__law_rows_spoilt : Value} {od__law_rows_spoilt an__law_rows_spoilt : Option Addr} {sl__law_rows_spoilt : Array (Option Value)} {f__law_spoilt : Addr} {oc__law_spoilt kV__law_spoilt dc__law_spoilt pm__law_spoilt cd__law_spoilt ct__law_spoilt : Value} {od__law_spoilt an__law_spoilt : Option Addr} {sl__law_spoilt : Array (Option Value)} {f__law_refused : Addr} {oc__law_refused kV__law_refused dc__law_refused pm__law_refused cd__law_refused ct__law_refused : Value} {od__law_refused an__law_refused : Option Addr} {sl__law_refused : Array (Option Value)} {f__law_errors_right : Addr} {oc__law_errors_right kV__law_errors_right dc__law_errors_right pm__law_errors_right cd__law_errors_right ct__law_errors_right : Value} {od__law_errors_right an__law_errors_right : Option Addr} {sl__law_errors_right : Array (Option Value)} {f_law : Addr} {oc_law kV_law dc_law pm_law cd_law ct_law : Value} {od_law an_law : Option Addr} {sl_law : Array (Option Value)} {C_Program : Addr} {f_einit : Addr} {oc_einit kV_einit dc_einit pm_einit cd_einit ct_einit : Value} {od_einit an_einit : Option Addr} {sl_einit : Array (Option Value)} {E_NoProgram N_NoProgram : Addr} {nm_NoProgram qn_NoProgram : Str} {bs_NoProgram bm_NoProgram sub_NoProgram : List Value} {sn_NoProgram : List Str} {ab_NoProgram : Bool} {col_NoProgram : Option Bool} {dd_NoProgram : Option Addr} {m0_NoProgram m1_NoProgram m2_NoProgram m3_NoProgram m5_NoProgram : Option Value} {E_AskError N_AskError : Addr} {nm_AskError qn_AskError : Str} {bs_AskError bm_AskError sub_AskError : List Value} {sn_AskError : List Str} {ab_AskError : Bool} {col_AskError : Option Bool} {dd_AskError : Option Addr} {m0_AskError m1_AskError m2_AskError m3_AskError m5_AskError : Option Value} {E_NoText N_NoText : Addr} {nm_NoText qn_NoText : Str} {bs_NoText bm_NoText sub_NoText : List Value} {sn_NoText : List Str} {ab_NoText : Bool} {col_NoText : Option Bool} {dd_NoText : Option Addr} {m0_NoText m1_NoText m2_NoText m3_NoText m5_NoText : Option Value} {E_NoRules N_NoRules : Addr} {nm_NoRules qn_NoRules : Str} {bs_NoRules bm_NoRules sub_NoRules : List Value} {sn_NoRules : List Str} {ab_NoRules : Bool} {col_NoRules : Option Bool} {dd_NoRules : Option Addr} {m0_NoRules m1_NoRules m2_NoRules m3_NoRules m5_NoRules : Option Value} {E_NoRelation N_NoRelation : Addr} {nm_NoRelation qn_NoRelation : Str} {bs_NoRelation bm_NoRelation sub_NoRelation : List Value} {sn_NoRelation : List Str} {ab_NoRelation : Bool} {col_NoRelation : Option Bool} {dd_NoRelation : Option Addr} {m0_NoRelation m1_NoRelation m2_NoRelation m3_NoRelation m5_NoRelation : Option Value} {E_NoPlace N_NoPlace : Addr} {nm_NoPlace qn_NoPlace : Str} {bs_NoPlace bm_NoPlace sub_NoPlace : List Value} {sn_NoPlace : List Str} {ab_NoPlace : Bool} {col_NoPlace : Option Bool} {dd_NoPlace : Option Addr} {m0_NoPlace m1_NoPlace m2_NoPlace m3_NoPlace m5_NoPlace : Option Value} {E_NoFinding N_NoFinding : Addr} {nm_NoFinding qn_NoFinding : Str} {bs_NoFinding bm_NoFinding sub_NoFinding : List Value} {sn_NoFinding : List Str} {ab_NoFinding : Bool} {col_NoFinding : Option Bool} {dd_NoFinding : Option Addr} {m0_NoFinding m1_NoFinding m2_NoFinding m3_NoFinding m5_NoFinding : Option Value} {k_LETTERS : Tok} {k_MOST_LETTERS : Tok} {k_MAIN : Tok}
  (l_is_name : K.lookup f_is_name = some ⟨oc_is_name, od_is_name, .func (PySem.W.fnOf "is_name" "is_name" (defArgs (topS 12)) (defBody (topS 12)) (defScope (topS 12)) .none kV_is_name dc_is_name pm_is_name an_is_name cd_is_name ct_is_name), sl_is_name⟩) (c_is_name : PySem.W.codeIn K cd_is_name "is_name" = true) (k_is_name : PySem.W.keepIn K (.ref f_is_name) = true)
  (a_is_name : PySem.W.nsIn K mainGlobals "is_name" = some (some (.ref f_is_name)))
  (l_each_row : K.lookup f_each_row = some ⟨oc_each_row, od_each_row, .func (PySem.W.fnOf "each_row" "each_row" (defArgs (topS 13)) (defBody (topS 13)) (defScope (topS 13)) .none kV_each_row dc_each_row pm_each_row an_each_row cd_each_row ct_each_row), sl_each_row⟩) (c_each_row : PySem.W.codeIn K cd_each_row "each_row" = true) (k_each_row : PySem.W.keepIn K (.ref f_each_row) = true)
  (a_each_row : PySem.W.nsIn K mainGlobals "each_row" = some (some (.ref f_each_row)))
  (l_names_asked : K.lookup f_names_asked = some ⟨oc_names_asked, od_names_asked, .func (PySem.W.fnOf "names_asked" "names_asked" (defArgs (topS 14)) (defBody (topS 14)) (defScope (topS 14)) .none kV_names_asked dc_names_asked pm_names_asked an_names_asked cd_names_asked ct_names_asked), sl_names_asked⟩) (c_names_asked : PySem.W.codeIn K cd_names_asked "names_asked" = true) (k_names_asked : PySem.W.keepIn K (.ref f_names_asked) = true)
  (a_names_asked : PySem.W.nsIn K mainGlobals "names_asked" = some (some (.ref f_names_asked)))
  (l_call_of : K.lookup f_call_of = some ⟨oc_call_of, od_call_of, .func (PySem.W.fnOf "call_of" "call_of" (defArgs (topS 15)) (defBody (topS 15)) (defScope (topS 15)) .none kV_call_of dc_call_of pm_call_of an_call_of cd_call_of ct_call_of), sl_call_of⟩) (c_call_of : PySem.W.codeIn K cd_call_of "call_of" = true) (k_call_of : PySem.W.keepIn K (.ref f_call_of) = true)
  (a_call_of : PySem.W.nsIn K mainGlobals "call_of" = some (some (.ref f_call_of)))
  (l_names_in : K.lookup f_names_in = some ⟨oc_names_in, od_names_in, .func (PySem.W.fnOf "names_in" "names_in" (defArgs (topS 16)) (defBody (topS 16)) (defScope (topS 16)) .none kV_names_in dc_names_in pm_names_in an_names_in cd_names_in ct_names_in), sl_names_in⟩) (c_names_in : PySem.W.codeIn K cd_names_in "names_in" = true) (k_names_in : PySem.W.keepIn K (.ref f_names_in) = true)
  (a_names_in : PySem.W.nsIn K mainGlobals "names_in" = some (some (.ref f_names_in)))
  (l_is_sound : K.lookup f_is_sound = some ⟨oc_is_sound, od_is_sound, .func (PySem.W.fnOf "is_sound" "is_sound" (defArgs (topS 17)) (defBody (topS 17)) (defScope (topS 17)) .none kV_is_sound dc_is_sound pm_is_sound an_is_sound cd_is_sound ct_is_sound), sl_is_sound⟩) (c_is_sound : PySem.W.codeIn K cd_is_sound "is_sound" = true) (k_is_sound : PySem.W.keepIn K (.ref f_is_sound) = true)
  (a_is_sound : PySem.W.nsIn K mainGlobals "is_sound" = some (some (.ref f_is_sound)))
  (l_Program_init : K.lookup f_Program_init = some ⟨oc_Program_init, od_Program_init, .func (PySem.W.fnOf "__init__" "Program.__init__" (defArgs (inClass (topS 18) 0)) (defBody (inClass (topS 18) 0)) (defScope (inClass (topS 18) 0)) .none kV_Program_init dc_Program_init pm_Program_init an_Program_init cd_Program_init ct_Program_init), sl_Program_init⟩) (c_Program_init : PySem.W.codeIn K cd_Program_init "Program.__init__" = true) (k_Program_init : PySem.W.keepIn K (.ref f_Program_init) = true)
  (l__law_tray : K.lookup f__law_tray = some ⟨oc__law_tray, od__law_tray, .func (PySem.W.fnOf "_law_tray" "_law_tray" (defArgs (topS 20)) (defBody (topS 20)) (defScope (topS 20)) .none kV__law_tray dc__law_tray pm__law_tray an__law_tray cd__law_tray ct__law_tray), sl__law_tray⟩) (c__law_tray : PySem.W.codeIn K cd__law_tray "_law_tray" = true) (k__law_tray : PySem.W.keepIn K (.ref f__law_tray) = true)
  (a__law_tray : PySem.W.nsIn K mainGlobals "_law_tray" = some (some (.ref f__law_tray)))
  (l__law_draw : K.lookup f__law_draw = some ⟨oc__law_draw, od__law_draw, .func (PySem.W.fnOf "_law_draw" "_law_draw" (defArgs (topS 21)) (defBody (topS 21)) (defScope (topS 21)) .none kV__law_draw dc__law_draw pm__law_draw an__law_draw cd__law_draw ct__law_draw), sl__law_draw⟩) (c__law_draw : PySem.W.codeIn K cd__law_draw "_law_draw" = true) (k__law_draw : PySem.W.keepIn K (.ref f__law_draw) = true)
  (a__law_draw : PySem.W.nsIn K mainGlobals "_law_draw" = some (some (.ref f__law_draw)))
  (l__law_great : K.lookup f__law_great = some ⟨oc__law_great, od__law_great, .func (PySem.W.fnOf "_law_great" "_law_great" (defArgs (topS 22)) (defBody (topS 22)) (defScope (topS 22)) .none kV__law_great dc__law_great pm__law_great an__law_great cd__law_great ct__law_great), sl__law_great⟩) (c__law_great : PySem.W.codeIn K cd__law_great "_law_great" = true) (k__law_great : PySem.W.keepIn K (.ref f__law_great) = true)
  (a__law_great : PySem.W.nsIn K mainGlobals "_law_great" = some (some (.ref f__law_great)))
  (l__law_name : K.lookup f__law_name = some ⟨oc__law_name, od__law_name, .func (PySem.W.fnOf "_law_name" "_law_name" (defArgs (topS 23)) (defBody (topS 23)) (defScope (topS 23)) .none kV__law_name dc__law_name pm__law_name an__law_name cd__law_name ct__law_name), sl__law_name⟩) (c__law_name : PySem.W.codeIn K cd__law_name "_law_name" = true) (k__law_name : PySem.W.keepIn K (.ref f__law_name) = true)
  (a__law_name : PySem.W.nsIn K mainGlobals "_law_name" = some (some (.ref f__law_name)))
  (l__law_names : K.lookup f__law_names = some ⟨oc__law_names, od__law_names, .func (PySem.W.fnOf "_law_names" "_law_names" (defArgs (topS 24)) (defBody (topS 24)) (defScope (topS 24)) .none kV__law_names dc__law_names pm__law_names an__law_names cd__law_names ct__law_names), sl__law_names⟩) (c__law_names : PySem.W.codeIn K cd__law_names "_law_names" = true) (k__law_names : PySem.W.keepIn K (.ref f__law_names) = true)
  (a__law_names : PySem.W.nsIn K mainGlobals "_law_names" = some (some (.ref f__law_names)))
  (l__law_whole : K.lookup f__law_whole = some ⟨oc__law_whole, od__law_whole, .func (PySem.W.fnOf "_law_whole" "_law_whole" (defArgs (topS 25)) (defBody (topS 25)) (defScope (topS 25)) .none kV__law_whole dc__law_whole pm__law_whole an__law_whole cd__law_whole ct__law_whole), sl__law_whole⟩) (c__law_whole : PySem.W.codeIn K cd__law_whole "_law_whole" = true) (k__law_whole : PySem.W.keepIn K (.ref f__law_whole) = true)
  (a__law_whole : PySem.W.nsIn K mainGlobals "_law_whole" = some (some (.ref f__law_whole)))
  (l__law_value : K.lookup f__law_value = some ⟨oc__law_value, od__law_value, .func (PySem.W.fnOf "_law_value" "_law_value" (defArgs (topS 26)) (defBody (topS 26)) (defScope (topS 26)) .none kV__law_value dc__law_value pm__law_value an__law_value cd__law_value ct__law_value), sl__law_value⟩) (c__law_value : PySem.W.codeIn K cd__law_value "_law_value" = true) (k__law_value : PySem.W.keepIn K (.ref f__law_value) = true)
  (a__law_value : PySem.W.nsIn K mainGlobals "_law_value" = some (some (.ref f__law_value)))
  (l__law_row : K.lookup f__law_row = some ⟨oc__law_row, od__law_row, .func (PySem.W.fnOf "_law_row" "_law_row" (defArgs (topS 27)) (defBody (topS 27)) (defScope (topS 27)) .none kV__law_row dc__law_row pm__law_row an__law_row cd__law_row ct__law_row), sl__law_row⟩) (c__law_row : PySem.W.codeIn K cd__law_row "_law_row" = true) (k__law_row : PySem.W.keepIn K (.ref f__law_row) = true)
  (a__law_row : PySem.W.nsIn K mainGlobals "_law_row" = some (some (.ref f__law_row)))
  (l__law_rows : K.lookup f__law_rows = some ⟨oc__law_rows, od__law_rows, .func (PySem.W.fnOf "_law_rows" "_law_rows" (defArgs (topS 28)) (defBody (topS 28)) (defScope (topS 28)) .none kV__law_rows dc__law_rows pm__law_rows an__law_rows cd__law_rows ct__law_rows), sl__law_rows⟩) (c__law_rows : PySem.W.codeIn K cd__law_rows "_law_rows" = true) (k__law_rows : PySem.W.keepIn K (.ref f__law_rows) = true)
  (a__law_rows : PySem.W.nsIn K mainGlobals "_law_rows" = some (some (.ref f__law_rows)))
  (l__law_program : K.lookup f__law_program = some ⟨oc__law_program, od__law_program, .func (PySem.W.fnOf "_law_program" "_law_program" (defArgs (topS 29)) (defBody (topS 29)) (defScope (topS 29)) .none kV__law_program dc__law_program pm__law_program an__law_program cd__law_program ct__law_program), sl__law_program⟩) (c__law_program : PySem.W.codeIn K cd__law_program "_law_program" = true) (k__law_program : PySem.W.keepIn K (.ref f__law_program) = true)
  (a__law_program : PySem.W.nsIn K mainGlobals "_law_program" = some (some (.ref f__law_program)))
  (l__law_each : K.lookup f__law_each = some ⟨oc__law_each, od__law_each, .func (PySem.W.fnOf "_law_each" "_law_each" (defArgs (topS 30)) (defBody (topS 30)) (defScope (topS 30)) .none kV__law_each dc__law_each pm__law_each an__law_each cd__law_each ct__law_each), sl__law_each⟩) (c__law_each : PySem.W.codeIn K cd__law_each "_law_each" = true) (k__law_each : PySem.W.keepIn K (.ref f__law_each) = true)
  (a__law_each : PySem.W.nsIn K mainGlobals "_law_each" = some (some (.ref f__law_each)))
  (l__law_is_name : K.lookup f__law_is_name = some ⟨oc__law_is_name, od__law_is_name, .func (PySem.W.fnOf "_law_is_name" "_law_is_name" (defArgs (topS 31)) (defBody (topS 31)) (defScope (topS 31)) .none kV__law_is_name dc__law_is_name pm__law_is_name an__law_is_name cd__law_is_name ct__law_is_name), sl__law_is_name⟩) (c__law_is_name : PySem.W.codeIn K cd__law_is_name "_law_is_name" = true) (k__law_is_name : PySem.W.keepIn K (.ref f__law_is_name) = true)
  (a__law_is_name : PySem.W.nsIn K mainGlobals "_law_is_name" = some (some (.ref f__law_is_name)))
  (l__law_in_row : K.lookup f__law_in_row = some ⟨oc__law_in_row, od__law_in_row, .func (PySem.W.fnOf "_law_in_row" "_law_in_row" (defArgs (topS 32)) (defBody (topS 32)) (defScope (topS 32)) .none kV__law_in_row dc__law_in_row pm__law_in_row an__law_in_row cd__law_in_row ct__law_in_row), sl__law_in_row⟩) (c__law_in_row : PySem.W.codeIn K cd__law_in_row "_law_in_row" = true) (k__law_in_row : PySem.W.keepIn K (.ref f__law_in_row) = true)
  (a__law_in_row : PySem.W.nsIn K mainGlobals "_law_in_row" = some (some (.ref f__law_in_row)))
  (l__law_is_faulty : K.lookup f__law_is_faulty = some ⟨oc__law_is_faulty, od__law_is_faulty, .func (PySem.W.fnOf "_law_is_faulty" "_law_is_faulty" (defArgs (topS 33)) (defBody (topS 33)) (defScope (topS 33)) .none kV__law_is_faulty dc__law_is_faulty pm__law_is_faulty an__law_is_faulty cd__law_is_faulty ct__law_is_faulty), sl__law_is_faulty⟩) (c__law_is_faulty : PySem.W.codeIn K cd__law_is_faulty "_law_is_faulty" = true) (k__law_is_faulty : PySem.W.keepIn K (.ref f__law_is_faulty) = true)
  (a__law_is_faulty : PySem.W.nsIn K mainGlobals "_law_is_faulty" = some (some (.ref f__law_is_faulty)))
  (l__law_due : K.lookup f__law_due = some ⟨oc__law_due, od__law_due, .func (PySem.W.fnOf "_law_due" "_law_due" (defArgs (topS 34)) (defBody (topS 34)) (defScope (topS 34)) .none kV__law_due dc__law_due pm__law_due an__law_due cd__law_due ct__law_due), sl__law_due⟩) (c__law_due : PySem.W.codeIn K cd__law_due "_law_due" = true) (k__law_due : PySem.W.keepIn K (.ref f__law_due) = true)
  (a__law_due : PySem.W.nsIn K mainGlobals "_law_due" = some (some (.ref f__law_due)))
  (l__law_bad_name : K.lookup f__law_bad_name = some ⟨oc__law_bad_name, od__law_bad_name, .func (PySem.W.fnOf "_law_bad_name" "_law_bad_name" (defArgs (topS 35)) (defBody (topS 35)) (defScope (topS 35)) .none kV__law_bad_name dc__law_bad_name pm__law_bad_name an__law_bad_name cd__law_bad_name ct__law_bad_name), sl__law_bad_name⟩) (c__law_bad_name : PySem.W.codeIn K cd__law_bad_name "_law_bad_name" = true) (k__law_bad_name : PySem.W.keepIn K (.ref f__law_bad_name) = true)
  (a__law_bad_name : PySem.W.nsIn K mainGlobals "_law_bad_name" = some (some (.ref f__law_bad_name)))
  (l__law_row_spoilt : K.lookup f__law_row_spoilt = some ⟨oc__law_row_spoilt, od__law_row_spoilt, .func (PySem.W.fnOf "_law_row_spoilt" "_law_row_spoilt" (defArgs (topS 36)) (defBody (topS 36)) (defScope (topS 36)) .none kV__law_row_spoilt dc__law_row_spoilt pm__law_row_spoilt an__law_row_spoilt cd__law_row_spoilt ct__law_row_spoilt), sl__law_row_spoilt⟩) (c__law_row_spoilt : PySem.W.codeIn K cd__law_row_spoilt "_law_row_spoilt" = true) (k__law_row_spoilt : PySem.W.keepIn K (.ref f__law_row_spoilt) = true)
  (a__law_row_spoilt : PySem.W.nsIn K mainGlobals "_law_row_spoilt" = some (some (.ref f__law_row_spoilt)))
  (l__law_rows_spoilt : K.lookup f__law_rows_spoilt = some ⟨oc__law_rows_spoilt, od__law_rows_spoilt, .func (PySem.W.fnOf "_law_rows_spoilt" "_law_rows_spoilt" (defArgs (topS 37)) (defBody (topS 37)) (defScope (topS 37)) .none kV__law_rows_spoilt dc__law_rows_spoilt pm__law_rows_spoilt an__law_rows_spoilt cd__law_rows_spoilt ct__law_rows_spoilt), sl__law_rows_spoilt⟩) (c__law_rows_spoilt : PySem.W.codeIn K cd__law_rows_spoilt "_law_rows_spoilt" = true) (k__law_rows_spoilt : PySem.W.keepIn K (.ref f__law_rows_spoilt) = true)
  (a__law_rows_spoilt : PySem.W.nsIn K mainGlobals "_law_rows_spoilt" = some (some (.ref f__law_rows_spoilt)))
  (l__law_spoilt : K.lookup f__law_spoilt = some ⟨oc__law_spoilt, od__law_spoilt, .func (PySem.W.fnOf "_law_spoilt" "_law_spoilt" (defArgs (topS 38)) (defBody (topS 38)) (defScope (topS 38)) .none kV__law_spoilt dc__law_spoilt pm__law_spoilt an__law_spoilt cd__law_spoilt ct__law_spoilt), sl__law_spoilt⟩) (c__law_spoilt : PySem.W.codeIn K cd__law_spoilt "_law_spoilt" = true) (k__law_spoilt : PySem.W.keepIn K (.ref f__law_spoilt) = true)
  (a__law_spoilt : PySem.W.nsIn K mainGlobals "_law_spoilt" = some (some (.ref f__law_spoilt)))
  (l__law_refused : K.lookup f__law_refused = some ⟨oc__law_refused, od__law_refused, .func (PySem.W.fnOf "_law_refused" "_law_refused" (defArgs (topS 39)) (defBody (topS 39)) (defScope (topS 39)) .none kV__law_refused dc__law_refused pm__law_refused an__law_refused cd__law_refused ct__law_refused), sl__law_refused⟩) (c__law_refused : PySem.W.codeIn K cd__law_refused "_law_refused" = true) (k__law_refused : PySem.W.keepIn K (.ref f__law_refused) = true)
  (a__law_refused : PySem.W.nsIn K mainGlobals "_law_refused" = some (some (.ref f__law_refused)))
  (l__law_errors_right : K.lookup f__law_errors_right = some ⟨oc__law_errors_right, od__law_errors_right, .func (PySem.W.fnOf "_law_errors_right" "_law_errors_right" (defArgs (topS 40)) (defBody (topS 40)) (defScope (topS 40)) .none kV__law_errors_right dc__law_errors_right pm__law_errors_right an__law_errors_right cd__law_errors_right ct__law_errors_right), sl__law_errors_right⟩) (c__law_errors_right : PySem.W.codeIn K cd__law_errors_right "_law_errors_right" = true) (k__law_errors_right : PySem.W.keepIn K (.ref f__law_errors_right) = true)
  (a__law_errors_right : PySem.W.nsIn K mainGlobals "_law_errors_right" = some (some (.ref f__law_errors_right)))
  (l_law : K.lookup f_law = some ⟨oc_law, od_law, .func (PySem.W.fnOf "law" "law" (defArgs (topS 41)) (defBody (topS 41)) (defScope (topS 41)) .none kV_law dc_law pm_law an_law cd_law ct_law), sl_law⟩) (c_law : PySem.W.codeIn K cd_law "law" = true) (k_law : PySem.W.keepIn K (.ref f_law) = true)
  (a_law : PySem.W.nsIn K mainGlobals "law" = some (some (.ref f_law)))
  (a_Program : PySem.W.nsIn K mainGlobals "Program" = some (some (.ref C_Program))) (pg_Program : PySem.W.plainGet K C_Program Str.empty = true) (hd_Program : PySem.W.hasDictIn K C_Program = true) (po_Program : PySem.W.plainOver K C_Program = true) (sa_Program : PySem.W.findIn K (.ref C_Program) "__setattr__" = some (some (.builtin "object.__setattr__"))) (mk_Program : PySem.W.makesIn K C_Program = true) (kc_Program : PySem.W.keepIn K (.ref C_Program) = true)
  (at_Program_init : PySem.W.findIn K (.ref C_Program) "__init__" = some (some (.ref f_Program_init))) (i_Program_init : PySem.W.isFn K (.ref f_Program_init) = true)
  (na_definitions_kept : PySem.W.findIn K (.ref C_Program) "definitions_kept" = some none)
  (l_einit : K.lookup f_einit = some ⟨oc_einit, od_einit, .func (PySem.W.fnOf "__init__" "AskError.__init__" (defArgs (inClass (topS 1) 0)) (defBody (inClass (topS 1) 0)) (defScope (inClass (topS 1) 0)) .none kV_einit dc_einit pm_einit an_einit cd_einit ct_einit), sl_einit⟩) (c_einit : PySem.W.codeIn K cd_einit "AskError.__init__" = true) (k_einit : PySem.W.keepIn K (.ref f_einit) = true) (ti_einit : PySem.W.typeIn K (.ref f_einit) = some (.type "function"))
  (cg : PySem.W.specialIn K (.builtin "object.__class__") "__get__" = some (some (.builtin "getset_descriptor.__get__"))) (cta : PySem.W.takesIn K (.builtin "object.__class__") = some true)
  (a_NoProgram : PySem.W.nsIn K mainGlobals "NoProgram" = some (some (.ref E_NoProgram))) (xl_NoProgram : K.lookup E_NoProgram = some (PySem.excClassObj nm_NoProgram qn_NoProgram E_NoProgram N_NoProgram bs_NoProgram bm_NoProgram true sn_NoProgram sub_NoProgram ab_NoProgram col_NoProgram dd_NoProgram m0_NoProgram m1_NoProgram m2_NoProgram m3_NoProgram m5_NoProgram "ValueError.__new__")) (rv_NoProgram : PySem.HandSPX.refsVE bm_NoProgram = true)
  (sa_NoProgram : PySem.W.findIn K (.ref E_NoProgram) "__setattr__" = some (some (.builtin "object.__setattr__"))) (be_NoProgram : PySem.W.subIn K (.ref E_NoProgram) (.type "BaseException") = some true) (ty_NoProgram : PySem.W.typeIn K (.ref E_NoProgram) = some (.type "type")) (kp_NoProgram : PySem.W.keepIn K (.ref E_NoProgram) = true) (at_xNoProgram : PySem.W.findIn K (.ref E_NoProgram) "__init__" = some (some (.ref f_einit))) (wn_NoProgram : PySem.W.findIn K (.ref E_NoProgram) "what" = some none) (hx_NoProgram : PySem.W.hasDictIn K E_NoProgram = true)
  (ga_NoProgram : PySem.W.findIn K (.ref E_NoProgram) "__getattribute__" = some (some (.builtin "BaseException.__getattribute__"))) (gg_NoProgram : PySem.W.findIn K (.ref E_NoProgram) "__getattr__" = some none) (cl_NoProgram : PySem.W.findIn K (.ref E_NoProgram) "__class__" = some (some (.builtin "object.__class__"))) (mo_NoProgram : PySem.W.mroIn K E_NoProgram (.type "object") = some true)
  (a_AskError : PySem.W.nsIn K mainGlobals "AskError" = some (some (.ref E_AskError))) (xl_AskError : K.lookup E_AskError = some (PySem.excClassObj nm_AskError qn_AskError E_AskError N_AskError bs_AskError bm_AskError true sn_AskError sub_AskError ab_AskError col_AskError dd_AskError m0_AskError m1_AskError m2_AskError m3_AskError m5_AskError "ValueError.__new__")) (rv_AskError : PySem.HandSPX.refsVE bm_AskError = true)
  (sa_AskError : PySem.W.findIn K (.ref E_AskError) "__setattr__" = some (some (.builtin "object.__setattr__"))) (be_AskError : PySem.W.subIn K (.ref E_AskError) (.type "BaseException") = some true) (ty_AskError : PySem.W.typeIn K (.ref E_AskError) = some (.type "type")) (kp_AskError : PySem.W.keepIn K (.ref E_AskError) = true) (at_xAskError : PySem.W.findIn K (.ref E_AskError) "__init__" = some (some (.ref f_einit))) (wn_AskError : PySem.W.findIn K (.ref E_AskError) "what" = some none) (hx_AskError : PySem.W.hasDictIn K E_AskError = true)
  (a_NoText : PySem.W.nsIn K mainGlobals "NoText" = some (some (.ref E_NoText))) (xl_NoText : K.lookup E_NoText = some (PySem.excClassObj nm_NoText qn_NoText E_NoText N_NoText bs_NoText bm_NoText true sn_NoText sub_NoText ab_NoText col_NoText dd_NoText m0_NoText m1_NoText m2_NoText m3_NoText m5_NoText "ValueError.__new__")) (rv_NoText : PySem.HandSPX.refsVE bm_NoText = true)
  (sa_NoText : PySem.W.findIn K (.ref E_NoText) "__setattr__" = some (some (.builtin "object.__setattr__"))) (be_NoText : PySem.W.subIn K (.ref E_NoText) (.type "BaseException") = some true) (ty_NoText : PySem.W.typeIn K (.ref E_NoText) = some (.type "type")) (kp_NoText : PySem.W.keepIn K (.ref E_NoText) = true) (at_xNoText : PySem.W.findIn K (.ref E_NoText) "__init__" = some (some (.ref f_einit))) (wn_NoText : PySem.W.findIn K (.ref E_NoText) "what" = some none) (hx_NoText : PySem.W.hasDictIn K E_NoText = true)
  (ga_NoText : PySem.W.findIn K (.ref E_NoText) "__getattribute__" = some (some (.builtin "BaseException.__getattribute__"))) (gg_NoText : PySem.W.findIn K (.ref E_NoText) "__getattr__" = some none) (cl_NoText : PySem.W.findIn K (.ref E_NoText) "__class__" = some (some (.builtin "object.__class__"))) (mo_NoText : PySem.W.mroIn K E_NoText (.type "object") = some true)
  (a_NoRules : PySem.W.nsIn K mainGlobals "NoRules" = some (some (.ref E_NoRules))) (xl_NoRules : K.lookup E_NoRules = some (PySem.excClassObj nm_NoRules qn_NoRules E_NoRules N_NoRules bs_NoRules bm_NoRules true sn_NoRules sub_NoRules ab_NoRules col_NoRules dd_NoRules m0_NoRules m1_NoRules m2_NoRules m3_NoRules m5_NoRules "ValueError.__new__")) (rv_NoRules : PySem.HandSPX.refsVE bm_NoRules = true)
  (sa_NoRules : PySem.W.findIn K (.ref E_NoRules) "__setattr__" = some (some (.builtin "object.__setattr__"))) (be_NoRules : PySem.W.subIn K (.ref E_NoRules) (.type "BaseException") = some true) (ty_NoRules : PySem.W.typeIn K (.ref E_NoRules) = some (.type "type")) (kp_NoRules : PySem.W.keepIn K (.ref E_NoRules) = true) (at_xNoRules : PySem.W.findIn K (.ref E_NoRules) "__init__" = some (some (.ref f_einit))) (wn_NoRules : PySem.W.findIn K (.ref E_NoRules) "what" = some none) (hx_NoRules : PySem.W.hasDictIn K E_NoRules = true)
  (ga_NoRules : PySem.W.findIn K (.ref E_NoRules) "__getattribute__" = some (some (.builtin "BaseException.__getattribute__"))) (gg_NoRules : PySem.W.findIn K (.ref E_NoRules) "__getattr__" = some none) (cl_NoRules : PySem.W.findIn K (.ref E_NoRules) "__class__" = some (some (.builtin "object.__class__"))) (mo_NoRules : PySem.W.mroIn K E_NoRules (.type "object") = some true)
  (a_NoRelation : PySem.W.nsIn K mainGlobals "NoRelation" = some (some (.ref E_NoRelation))) (xl_NoRelation : K.lookup E_NoRelation = some (PySem.excClassObj nm_NoRelation qn_NoRelation E_NoRelation N_NoRelation bs_NoRelation bm_NoRelation true sn_NoRelation sub_NoRelation ab_NoRelation col_NoRelation dd_NoRelation m0_NoRelation m1_NoRelation m2_NoRelation m3_NoRelation m5_NoRelation "ValueError.__new__")) (rv_NoRelation : PySem.HandSPX.refsVE bm_NoRelation = true)
  (sa_NoRelation : PySem.W.findIn K (.ref E_NoRelation) "__setattr__" = some (some (.builtin "object.__setattr__"))) (be_NoRelation : PySem.W.subIn K (.ref E_NoRelation) (.type "BaseException") = some true) (ty_NoRelation : PySem.W.typeIn K (.ref E_NoRelation) = some (.type "type")) (kp_NoRelation : PySem.W.keepIn K (.ref E_NoRelation) = true) (at_xNoRelation : PySem.W.findIn K (.ref E_NoRelation) "__init__" = some (some (.ref f_einit))) (wn_NoRelation : PySem.W.findIn K (.ref E_NoRelation) "what" = some none) (hx_NoRelation : PySem.W.hasDictIn K E_NoRelation = true)
  (ga_NoRelation : PySem.W.findIn K (.ref E_NoRelation) "__getattribute__" = some (some (.builtin "BaseException.__getattribute__"))) (gg_NoRelation : PySem.W.findIn K (.ref E_NoRelation) "__getattr__" = some none) (cl_NoRelation : PySem.W.findIn K (.ref E_NoRelation) "__class__" = some (some (.builtin "object.__class__"))) (mo_NoRelation : PySem.W.mroIn K E_NoRelation (.type "object") = some true)
  (a_NoPlace : PySem.W.nsIn K mainGlobals "NoPlace" = some (some (.ref E_NoPlace))) (xl_NoPlace : K.lookup E_NoPlace = some (PySem.excClassObj nm_NoPlace qn_NoPlace E_NoPlace N_NoPlace bs_NoPlace bm_NoPlace true sn_NoPlace sub_NoPlace ab_NoPlace col_NoPlace dd_NoPlace m0_NoPlace m1_NoPlace m2_NoPlace m3_NoPlace m5_NoPlace "ValueError.__new__")) (rv_NoPlace : PySem.HandSPX.refsVE bm_NoPlace = true)
  (sa_NoPlace : PySem.W.findIn K (.ref E_NoPlace) "__setattr__" = some (some (.builtin "object.__setattr__"))) (be_NoPlace : PySem.W.subIn K (.ref E_NoPlace) (.type "BaseException") = some true) (ty_NoPlace : PySem.W.typeIn K (.ref E_NoPlace) = some (.type "type")) (kp_NoPlace : PySem.W.keepIn K (.ref E_NoPlace) = true) (at_xNoPlace : PySem.W.findIn K (.ref E_NoPlace) "__init__" = some (some (.ref f_einit))) (wn_NoPlace : PySem.W.findIn K (.ref E_NoPlace) "what" = some none) (hx_NoPlace : PySem.W.hasDictIn K E_NoPlace = true)
  (ga_NoPlace : PySem.W.findIn K (.ref E_NoPlace) "__getattribute__" = some (some (.builtin "BaseException.__getattribute__"))) (gg_NoPlace : PySem.W.findIn K (.ref E_NoPlace) "__getattr__" = some none) (cl_NoPlace : PySem.W.findIn K (.ref E_NoPlace) "__class__" = some (some (.builtin "object.__class__"))) (mo_NoPlace : PySem.W.mroIn K E_NoPlace (.type "object") = some true)
  (a_NoFinding : PySem.W.nsIn K mainGlobals "NoFinding" = some (some (.ref E_NoFinding))) (xl_NoFinding : K.lookup E_NoFinding = some (PySem.excClassObj nm_NoFinding qn_NoFinding E_NoFinding N_NoFinding bs_NoFinding bm_NoFinding true sn_NoFinding sub_NoFinding ab_NoFinding col_NoFinding dd_NoFinding m0_NoFinding m1_NoFinding m2_NoFinding m3_NoFinding m5_NoFinding "ValueError.__new__")) (rv_NoFinding : PySem.HandSPX.refsVE bm_NoFinding = true)
  (sa_NoFinding : PySem.W.findIn K (.ref E_NoFinding) "__setattr__" = some (some (.builtin "object.__setattr__"))) (be_NoFinding : PySem.W.subIn K (.ref E_NoFinding) (.type "BaseException") = some true) (ty_NoFinding : PySem.W.typeIn K (.ref E_NoFinding) = some (.type "type")) (kp_NoFinding : PySem.W.keepIn K (.ref E_NoFinding) = true) (at_xNoFinding : PySem.W.findIn K (.ref E_NoFinding) "__init__" = some (some (.ref f_einit))) (wn_NoFinding : PySem.W.findIn K (.ref E_NoFinding) "what" = some none) (hx_NoFinding : PySem.W.hasDictIn K E_NoFinding = true)
  (ga_NoFinding : PySem.W.findIn K (.ref E_NoFinding) "__getattribute__" = some (some (.builtin "BaseException.__getattribute__"))) (gg_NoFinding : PySem.W.findIn K (.ref E_NoFinding) "__getattr__" = some none) (cl_NoFinding : PySem.W.findIn K (.ref E_NoFinding) "__class__" = some (some (.builtin "object.__class__"))) (mo_NoFinding : PySem.W.mroIn K E_NoFinding (.type "object") = some true)
  (ne_NoProgram_AskError : (Value.ref E_NoProgram == Value.ref E_AskError) = false)
  (ne_NoProgram_NoFinding : (Value.ref E_NoProgram == Value.ref E_NoFinding) = false)
  (ne_NoProgram_NoPlace : (Value.ref E_NoProgram == Value.ref E_NoPlace) = false)
  (ne_NoProgram_NoRelation : (Value.ref E_NoProgram == Value.ref E_NoRelation) = false)
  (ne_NoProgram_NoRules : (Value.ref E_NoProgram == Value.ref E_NoRules) = false)
  (ne_NoProgram_NoText : (Value.ref E_NoProgram == Value.ref E_NoText) = false)
  (sub_NoProgram_NoProgram : PySem.W.subIn K (.ref E_NoProgram) (.ref E_NoProgram) = some true)
  (sub_NoProgram_AskError : PySem.W.subIn K (.ref E_NoProgram) (.ref E_AskError) = some true)
  (sub_NoProgram_ValueError : PySem.W.subIn K (.ref E_NoProgram) (.type "ValueError") = some true)
  (sub_NoProgram_NoFinding : PySem.W.subIn K (.ref E_NoProgram) (.ref E_NoFinding) = some false)
  (sub_NoProgram_NoPlace : PySem.W.subIn K (.ref E_NoProgram) (.ref E_NoPlace) = some false)
  (sub_NoProgram_NoRelation : PySem.W.subIn K (.ref E_NoProgram) (.ref E_NoRelation) = some false)
  (sub_NoProgram_NoRules : PySem.W.subIn K (.ref E_NoProgram) (.ref E_NoRules) = some false)
  (sub_NoProgram_NoText : PySem.W.subIn K (.ref E_NoProgram) (.ref E_NoText) = some false)
  (c_LETTERS : PySem.W.nsIn K mainGlobals "LETTERS" = some (some (.str "abcdefghijklmnopqrstuvwxyz" k_LETTERS)))
  (c_MOST_LETTERS : PySem.W.nsIn K mainGlobals "MOST_LETTERS" = some (some (.int 8 k_MOST_LETTERS)))
  (c_MAIN : PySem.W.nsIn K mainGlobals "MAIN" = some (some (.str "main" k_MAIN)))
  (n_ValueError : PySem.W.nsIn K mainGlobals "ValueError" = some none)
  (n_all : PySem.W.nsIn K mainGlobals "all" = some none)
  (n_dict : PySem.W.nsIn K mainGlobals "dict" = some none)
  (n_isinstance : PySem.W.nsIn K mainGlobals "isinstance" = some none)
  (n_len : PySem.W.nsIn K mainGlobals "len" = some none)
  (n_list : PySem.W.nsIn K mainGlobals "list" = some none)
  (n_max : PySem.W.nsIn K mainGlobals "max" = some none)
  (n_min : PySem.W.nsIn K mainGlobals "min" = some none)
  (n_range : PySem.W.nsIn K mainGlobals "range" = some none)
  (n_set : PySem.W.nsIn K mainGlobals "set" = some none)
  (n_tuple : PySem.W.nsIn K mainGlobals "tuple" = some none) : Tx K mg :=
  { t_is_name := ⟨⟨f_is_name, _, fun_mk (st := topS 12) l_is_name c_is_name k_is_name, (fun_mk (st := topS 12) l_is_name c_is_name k_is_name).binds (fun _ _ _ _ _ _ us hl => match us, hl with | [_], _ => rfl)⟩, PySem.W.mg_of X G a_is_name⟩, t_each_row := ⟨⟨f_each_row, _, fun_mk (st := topS 13) l_each_row c_each_row k_each_row, (fun_mk (st := topS 13) l_each_row c_each_row k_each_row).binds (fun _ _ _ _ _ _ us hl => match us, hl with | [_], _ => rfl)⟩, PySem.W.mg_of X G a_each_row⟩, t_names_asked := ⟨⟨f_names_asked, _, fun_mk (st := topS 14) l_names_asked c_names_asked k_names_asked, (fun_mk (st := topS 14) l_names_asked c_names_asked k_names_asked).binds (fun _ _ _ _ _ _ us hl => match us, hl with | [_], _ => rfl)⟩, PySem.W.mg_of X G a_names_asked⟩, t_call_of := ⟨⟨f_call_of, _, fun_mk (st := topS 15) l_call_of c_call_of k_call_of, (fun_mk (st := topS 15) l_call_of c_call_of k_call_of).binds (fun _ _ _ _ _ _ us hl => match us, hl with | [_], _ => rfl)⟩, PySem.W.mg_of X G a_call_of⟩, t_names_in := ⟨⟨f_names_in, _, fun_mk (st := topS 16) l_names_in c_names_in k_names_in, (fun_mk (st := topS 16) l_names_in c_names_in k_names_in).binds (fun _ _ _ _ _ _ us hl => match us, hl with | [_], _ => rfl)⟩, PySem.W.mg_of X G a_names_in⟩, t_is_sound := ⟨⟨f_is_sound, _, fun_mk (st := topS 17) l_is_sound c_is_sound k_is_sound, (fun_mk (st := topS 17) l_is_sound c_is_sound k_is_sound).binds (fun _ _ _ _ _ _ us hl => match us, hl with | [_, _], _ => rfl)⟩, PySem.W.mg_of X G a_is_sound⟩, t_Program_init := ⟨f_Program_init, _, fun_mk (st := inClass (topS 18) 0) l_Program_init c_Program_init k_Program_init, (fun_mk (st := inClass (topS 18) 0) l_Program_init c_Program_init k_Program_init).binds (fun _ _ _ _ _ _ us hl => match us, hl with | [_, _], _ => rfl)⟩, t__law_tray := ⟨⟨f__law_tray, _, fun_mk (st := topS 20) l__law_tray c__law_tray k__law_tray, (fun_mk (st := topS 20) l__law_tray c__law_tray k__law_tray).binds (fun _ _ _ _ _ _ us hl => match us, hl with | [_], _ => rfl)⟩, PySem.W.mg_of X G a__law_tray⟩, t__law_draw := ⟨⟨f__law_draw, _, fun_mk (st := topS 21) l__law_draw c__law_draw k__law_draw, (fun_mk (st := topS 21) l__law_draw c__law_draw k__law_draw).binds (fun _ _ _ _ _ _ us hl => match us, hl with | [_, _], _ => rfl)⟩, PySem.W.mg_of X G a__law_draw⟩, t__law_great := ⟨⟨f__law_great, _, fun_mk (st := topS 22) l__law_great c__law_great k__law_great, (fun_mk (st := topS 22) l__law_great c__law_great k__law_great).binds (fun _ _ _ _ _ _ us hl => match us, hl with | [_], _ => rfl)⟩, PySem.W.mg_of X G a__law_great⟩, t__law_name := ⟨⟨f__law_name, _, fun_mk (st := topS 23) l__law_name c__law_name k__law_name, (fun_mk (st := topS 23) l__law_name c__law_name k__law_name).binds (fun _ _ _ _ _ _ us hl => match us, hl with | [_, _], _ => rfl)⟩, PySem.W.mg_of X G a__law_name⟩, t__law_names := ⟨⟨f__law_names, _, fun_mk (st := topS 24) l__law_names c__law_names k__law_names, (fun_mk (st := topS 24) l__law_names c__law_names k__law_names).binds (fun _ _ _ _ _ _ us hl => match us, hl with | [_, _, _], _ => rfl)⟩, PySem.W.mg_of X G a__law_names⟩, t__law_whole := ⟨⟨f__law_whole, _, fun_mk (st := topS 25) l__law_whole c__law_whole k__law_whole, (fun_mk (st := topS 25) l__law_whole c__law_whole k__law_whole).binds (fun _ _ _ _ _ _ us hl => match us, hl with | [_], _ => rfl)⟩, PySem.W.mg_of X G a__law_whole⟩, t__law_value := ⟨⟨f__law_value, _, fun_mk (st := topS 26) l__law_value c__law_value k__law_value, (fun_mk (st := topS 26) l__law_value c__law_value k__law_value).binds (fun _ _ _ _ _ _ us hl => match us, hl with | [_, _, _], _ => rfl)⟩, PySem.W.mg_of X G a__law_value⟩, t__law_row := ⟨⟨f__law_row, _, fun_mk (st := topS 27) l__law_row c__law_row k__law_row, (fun_mk (st := topS 27) l__law_row c__law_row k__law_row).binds (fun _ _ _ _ _ _ us hl => match us, hl with | [_, _, _, _, _], _ => rfl)⟩, PySem.W.mg_of X G a__law_row⟩, t__law_rows := ⟨⟨f__law_rows, _, fun_mk (st := topS 28) l__law_rows c__law_rows k__law_rows, (fun_mk (st := topS 28) l__law_rows c__law_rows k__law_rows).binds (fun _ _ _ _ _ _ us hl => match us, hl with | [_, _, _, _, _], _ => rfl)⟩, PySem.W.mg_of X G a__law_rows⟩, t__law_program := ⟨⟨f__law_program, _, fun_mk (st := topS 29) l__law_program c__law_program k__law_program, (fun_mk (st := topS 29) l__law_program c__law_program k__law_program).binds (fun _ _ _ _ _ _ us hl => match us, hl with | [_, _], _ => rfl)⟩, PySem.W.mg_of X G a__law_program⟩, t__law_each := ⟨⟨f__law_each, _, fun_mk (st := topS 30) l__law_each c__law_each k__law_each, (fun_mk (st := topS 30) l__law_each c__law_each k__law_each).binds (fun _ _ _ _ _ _ us hl => match us, hl with | [_], _ => rfl)⟩, PySem.W.mg_of X G a__law_each⟩, t__law_is_name := ⟨⟨f__law_is_name, _, fun_mk (st := topS 31) l__law_is_name c__law_is_name k__law_is_name, (fun_mk (st := topS 31) l__law_is_name c__law_is_name k__law_is_name).binds (fun _ _ _ _ _ _ us hl => match us, hl with | [_], _ => rfl)⟩, PySem.W.mg_of X G a__law_is_name⟩, t__law_in_row := ⟨⟨f__law_in_row, _, fun_mk (st := topS 32) l__law_in_row c__law_in_row k__law_in_row, (fun_mk (st := topS 32) l__law_in_row c__law_in_row k__law_in_row).binds (fun _ _ _ _ _ _ us hl => match us, hl with | [_], _ => rfl)⟩, PySem.W.mg_of X G a__law_in_row⟩, t__law_is_faulty := ⟨⟨f__law_is_faulty, _, fun_mk (st := topS 33) l__law_is_faulty c__law_is_faulty k__law_is_faulty, (fun_mk (st := topS 33) l__law_is_faulty c__law_is_faulty k__law_is_faulty).binds (fun _ _ _ _ _ _ us hl => match us, hl with | [_, _], _ => rfl)⟩, PySem.W.mg_of X G a__law_is_faulty⟩, t__law_due := ⟨⟨f__law_due, _, fun_mk (st := topS 34) l__law_due c__law_due k__law_due, (fun_mk (st := topS 34) l__law_due c__law_due k__law_due).binds (fun _ _ _ _ _ _ us hl => match us, hl with | [_], _ => rfl)⟩, PySem.W.mg_of X G a__law_due⟩, t__law_bad_name := ⟨⟨f__law_bad_name, _, fun_mk (st := topS 35) l__law_bad_name c__law_bad_name k__law_bad_name, (fun_mk (st := topS 35) l__law_bad_name c__law_bad_name k__law_bad_name).binds (fun _ _ _ _ _ _ us hl => match us, hl with | [_, _], _ => rfl)⟩, PySem.W.mg_of X G a__law_bad_name⟩, t__law_row_spoilt := ⟨⟨f__law_row_spoilt, _, fun_mk (st := topS 36) l__law_row_spoilt c__law_row_spoilt k__law_row_spoilt, (fun_mk (st := topS 36) l__law_row_spoilt c__law_row_spoilt k__law_row_spoilt).binds (fun _ _ _ _ _ _ us hl => match us, hl with | [_, _, _], _ => rfl)⟩, PySem.W.mg_of X G a__law_row_spoilt⟩, t__law_rows_spoilt := ⟨⟨f__law_rows_spoilt, _, fun_mk (st := topS 37) l__law_rows_spoilt c__law_rows_spoilt k__law_rows_spoilt, (fun_mk (st := topS 37) l__law_rows_spoilt c__law_rows_spoilt k__law_rows_spoilt).binds (fun _ _ _ _ _ _ us hl => match us, hl with | [_, _, _, _], _ => rfl)⟩, PySem.W.mg_of X G a__law_rows_spoilt⟩, t__law_spoilt := ⟨⟨f__law_spoilt, _, fun_mk (st := topS 38) l__law_spoilt c__law_spoilt k__law_spoilt, (fun_mk (st := topS 38) l__law_spoilt c__law_spoilt k__law_spoilt).binds (fun _ _ _ _ _ _ us hl => match us, hl with | [_, _], _ => rfl)⟩, PySem.W.mg_of X G a__law_spoilt⟩, t__law_refused := ⟨⟨f__law_refused, _, fun_mk (st := topS 39) l__law_refused c__law_refused k__law_refused, (fun_mk (st := topS 39) l__law_refused c__law_refused k__law_refused).binds (fun _ _ _ _ _ _ us hl => match us, hl with | [_], _ => rfl)⟩, PySem.W.mg_of X G a__law_refused⟩, t__law_errors_right := ⟨⟨f__law_errors_right, _, fun_mk (st := topS 40) l__law_errors_right c__law_errors_right k__law_errors_right, (fun_mk (st := topS 40) l__law_errors_right c__law_errors_right k__law_errors_right).binds (fun _ _ _ _ _ _ us hl => match us, hl with | [_], _ => rfl)⟩, PySem.W.mg_of X G a__law_errors_right⟩, t_law := ⟨⟨f_law, _, fun_mk (st := topS 41) l_law c_law k_law, (fun_mk (st := topS 41) l_law c_law k_law).binds (fun _ _ _ _ _ _ us hl => match us, hl with | [_], _ => rfl)⟩, PySem.W.mg_of X G a_law⟩, a_Program := C_Program, g_Program := PySem.W.mg_of X G a_Program, cl_Program := ⟨pg_Program, hd_Program, po_Program, sa_Program⟩, mk_Program := ⟨mk_Program, at_Program_init, i_Program_init, kc_Program⟩, na_definitions_kept := na_definitions_kept, f_einit := f_einit, d_einit := _, t_einit := fun_mk (st := inClass (topS 1) 0) l_einit c_einit k_einit, b_einit := (fun_mk (st := inClass (topS 1) 0) l_einit c_einit k_einit).binds (fun _ _ _ _ _ _ us hl => match us, hl with | [_, _], _ => rfl), kb_einit := Fun.kbindsW (fun_mk (st := inClass (topS 1) 0) l_einit c_einit k_einit) (fun kV dc pm an cdv ct us ws hl => match us, ws, hl with | [_], [_], _ => rfl) kw_rel1, i_init := ti_einit, p_einit := (⟨5, 8, 5, 12⟩, ⟨5, 8, 5, 17⟩, ⟨5, 20, 5, 24⟩, ⟨5, 8, 5, 24⟩), sc_einit := sc_einit, bo_einit := bo_einit, E_NoProgram := E_NoProgram, x_NoProgram := ⟨PySem.W.mg_of X G a_NoProgram, ⟨⟨_, _, _, _, _, _, _, _, _, _, _, _, _, _, _, xl_NoProgram, rv_NoProgram⟩, sa_NoProgram, be_NoProgram, ty_NoProgram, kp_NoProgram⟩, at_xNoProgram, wn_NoProgram⟩, xf_NoProgram := ⟨ga_NoProgram, gg_NoProgram, be_NoProgram, hx_NoProgram⟩, ec_NoProgram := ⟨ga_NoProgram, gg_NoProgram, be_NoProgram, hx_NoProgram, cl_NoProgram, cg, cta, mo_NoProgram⟩, E_AskError := E_AskError, x_AskError := ⟨PySem.W.mg_of X G a_AskError, ⟨⟨_, _, _, _, _, _, _, _, _, _, _, _, _, _, _, xl_AskError, rv_AskError⟩, sa_AskError, be_AskError, ty_AskError, kp_AskError⟩, at_xAskError, wn_AskError⟩, E_NoText := E_NoText, x_NoText := ⟨PySem.W.mg_of X G a_NoText, ⟨⟨_, _, _, _, _, _, _, _, _, _, _, _, _, _, _, xl_NoText, rv_NoText⟩, sa_NoText, be_NoText, ty_NoText, kp_NoText⟩, at_xNoText, wn_NoText⟩, xf_NoText := ⟨ga_NoText, gg_NoText, be_NoText, hx_NoText⟩, ec_NoText := ⟨ga_NoText, gg_NoText, be_NoText, hx_NoText, cl_NoText, cg, cta, mo_NoText⟩, E_NoRules := E_NoRules, x_NoRules := ⟨PySem.W.mg_of X G a_NoRules, ⟨⟨_, _, _, _, _, _, _, _, _, _, _, _, _, _, _, xl_NoRules, rv_NoRules⟩, sa_NoRules, be_NoRules, ty_NoRules, kp_NoRules⟩, at_xNoRules, wn_NoRules⟩, xf_NoRules := ⟨ga_NoRules, gg_NoRules, be_NoRules, hx_NoRules⟩, ec_NoRules := ⟨ga_NoRules, gg_NoRules, be_NoRules, hx_NoRules, cl_NoRules, cg, cta, mo_NoRules⟩, E_NoRelation := E_NoRelation, x_NoRelation := ⟨PySem.W.mg_of X G a_NoRelation, ⟨⟨_, _, _, _, _, _, _, _, _, _, _, _, _, _, _, xl_NoRelation, rv_NoRelation⟩, sa_NoRelation, be_NoRelation, ty_NoRelation, kp_NoRelation⟩, at_xNoRelation, wn_NoRelation⟩, xf_NoRelation := ⟨ga_NoRelation, gg_NoRelation, be_NoRelation, hx_NoRelation⟩, ec_NoRelation := ⟨ga_NoRelation, gg_NoRelation, be_NoRelation, hx_NoRelation, cl_NoRelation, cg, cta, mo_NoRelation⟩, E_NoPlace := E_NoPlace, x_NoPlace := ⟨PySem.W.mg_of X G a_NoPlace, ⟨⟨_, _, _, _, _, _, _, _, _, _, _, _, _, _, _, xl_NoPlace, rv_NoPlace⟩, sa_NoPlace, be_NoPlace, ty_NoPlace, kp_NoPlace⟩, at_xNoPlace, wn_NoPlace⟩, xf_NoPlace := ⟨ga_NoPlace, gg_NoPlace, be_NoPlace, hx_NoPlace⟩, ec_NoPlace := ⟨ga_NoPlace, gg_NoPlace, be_NoPlace, hx_NoPlace, cl_NoPlace, cg, cta, mo_NoPlace⟩, E_NoFinding := E_NoFinding, x_NoFinding := ⟨PySem.W.mg_of X G a_NoFinding, ⟨⟨_, _, _, _, _, _, _, _, _, _, _, _, _, _, _, xl_NoFinding, rv_NoFinding⟩, sa_NoFinding, be_NoFinding, ty_NoFinding, kp_NoFinding⟩, at_xNoFinding, wn_NoFinding⟩, xf_NoFinding := ⟨ga_NoFinding, gg_NoFinding, be_NoFinding, hx_NoFinding⟩, ec_NoFinding := ⟨ga_NoFinding, gg_NoFinding, be_NoFinding, hx_NoFinding, cl_NoFinding, cg, cta, mo_NoFinding⟩, ex_NoProgram_NoProgram := PySem.W.exm_ref be_NoProgram hx_NoProgram ty_NoProgram sub_NoProgram_NoProgram, ki_NoProgram_AskError := kit_sub hx_AskError ty_AskError sub_NoProgram_AskError ne_NoProgram_AskError, ki_NoProgram_ValueError := kit_subT (by decide +kernel) sub_NoProgram_ValueError, ki_NoProgram_NoFinding := kit_sub hx_NoFinding ty_NoFinding sub_NoProgram_NoFinding ne_NoProgram_NoFinding, ki_NoProgram_NoPlace := kit_sub hx_NoPlace ty_NoPlace sub_NoProgram_NoPlace ne_NoProgram_NoPlace, ki_NoProgram_NoRelation := kit_sub hx_NoRelation ty_NoRelation sub_NoProgram_NoRelation ne_NoProgram_NoRelation, ki_NoProgram_NoRules := kit_sub hx_NoRules ty_NoRules sub_NoProgram_NoRules ne_NoProgram_NoRules, ki_NoProgram_NoText := kit_sub hx_NoText ty_NoText sub_NoProgram_NoText ne_NoProgram_NoText, k_LETTERS := k_LETTERS, c_LETTERS := PySem.W.mg_of X G c_LETTERS, k_MOST_LETTERS := k_MOST_LETTERS, c_MOST_LETTERS := PySem.W.mg_of X G c_MOST_LETTERS, k_MAIN := k_MAIN, c_MAIN := PySem.W.mg_of X G c_MAIN, n_ValueError := PySem.W.mg_none_of X G n_ValueError, n_all := PySem.W.mg_none_of X G n_all, n_dict := PySem.W.mg_none_of X G n_dict, n_isinstance := PySem.W.mg_none_of X G n_isinstance, n_len := PySem.W.mg_none_of X G n_len, n_list := PySem.W.mg_none_of X G n_list, n_max := PySem.W.mg_none_of X G n_max, n_min := PySem.W.mg_none_of X G n_min, n_range := PySem.W.mg_none_of X G n_range, n_set := PySem.W.mg_none_of X G n_set, n_tuple := PySem.W.mg_none_of X G n_tuple }
theorem law_facts (hmain : LawMain 63 m_law) {K : PySem.W.Frag} {h : Heap} {mg : Str → Option Value} {l : PySem.W.OpenLaw} {w : World} {fa : Addr} (X : K.In h) (G : h.Ns mainGlobals mg) (hfa : mg "law" = some (.ref fa)) {f_is_name : Addr} {oc_is_name kV_is_name dc_is_name pm_is_name cd_is_name ct_is_name : Value} {od_is_name an_is_name : Option Addr} {sl_is_name : Array (Option Value)} {f_each_row : Addr} {oc_each_row kV_each_row dc_each_row pm_each_row cd_each_row ct_each_row : Value} {od_each_row an_each_row : Option Addr} {sl_each_row : Array (Option Value)} {f_names_asked : Addr} {oc_names_asked kV_names_asked dc_names_asked pm_names_asked cd_names_asked ct_names_asked : Value} {od_names_asked an_names_asked : Option Addr} {sl_names_asked : Array (Option Value)} {f_call_of : Addr} {oc_call_of kV_call_of dc_call_of pm_call_of cd_call_of ct_call_of : Value} {od_call_of an_call_of : Option Addr} {sl_call_of : Array (Option Value)} {f_names_in : Addr} {oc_names_in kV_names_in dc_names_in pm_names_in cd_names_in ct_names_in : Value} {od_names_in an_names_in : Option Addr} {sl_names_in : Array (Option Value)} {f_is_sound : Addr} {oc_is_sound kV_is_sound dc_is_sound pm_is_sound cd_is_sound ct_is_sound : Value} {od_is_sound an_is_sound : Option Addr} {sl_is_sound : Array (Option Value)} {f_Program_init : Addr} {oc_Program_init kV_Program_init dc_Program_init pm_Program_init cd_Program_init ct_Program_init : Value} {od_Program_init an_Program_init : Option Addr} {sl_Program_init : Array (Option Value)} {f__law_tray : Addr} {oc__law_tray kV__law_tray dc__law_tray pm__law_tray cd__law_tray ct__law_tray : Value} {od__law_tray an__law_tray : Option Addr} {sl__law_tray : Array (Option Value)} {f__law_draw : Addr} {oc__law_draw kV__law_draw dc__law_draw pm__law_draw cd__law_draw ct__law_draw : Value} {od__law_draw an__law_draw : Option Addr} {sl__law_draw : Array (Option Value)} {f__law_great : Addr} {oc__law_great kV__law_great dc__law_great pm__law_great cd__law_great ct__law_great : Value} {od__law_great an__law_great : Option Addr} {sl__law_great : Array (Option Value)} {f__law_name : Addr} {oc__law_name kV__law_name dc__law_name pm__law_name cd__law_name ct__law_name : Value} {od__law_name an__law_name : Option Addr} {sl__law_name : Array (Option Value)} {f__law_names : Addr} {oc__law_names kV__law_names dc__law_names pm__law_names cd__law_names ct__law_names : Value} {od__law_names an__law_names : Option Addr} {sl__law_names : Array (Option Value)} {f__law_whole : Addr} {oc__law_whole kV__law_whole dc__law_whole pm__law_whole cd__law_whole ct__law_whole : Value} {od__law_whole an__law_whole : Option Addr} {sl__law_whole : Array (Option Value)} {f__law_value : Addr} {oc__law_value kV__law_value dc__law_value pm__law_value cd__law_value ct__law_value : Value} {od__law_value an__law_value : Option Addr} {sl__law_value : Array (Option Value)} {f__law_row : Addr} {oc__law_row kV__law_row dc__law_row pm__law_row cd__law_row ct__law_row : Value} {od__law_row an__law_row : Option Addr} {sl__law_row : Array (Option Value)} {f__law_rows : Addr} {oc__law_rows kV__law_rows dc__law_rows pm__law_rows cd__law_rows ct__law_rows : Value} {od__law_rows an__law_rows : Option Addr} {sl__law_rows : Array (Option Value)} {f__law_program : Addr} {oc__law_program kV__law_program dc__law_program pm__law_program cd__law_program ct__law_program : Value} {od__law_program an__law_program : Option Addr} {sl__law_program : Array (Option Value)} {f__law_each : Addr} {oc__law_each kV__law_each dc__law_each pm__law_each cd__law_each ct__law_each : Value} {od__law_each an__law_each : Option Addr} {sl__law_each : Array (Option Value)} {f__law_is_name : Addr} {oc__law_is_name kV__law_is_name dc__law_is_name pm__law_is_name cd__law_is_name ct__law_is_name : Value} {od__law_is_name an__law_is_name : Option Addr} {sl__law_is_name : Array (Option Value)} {f__law_in_row : Addr} {oc__law_in_row kV__law_in_row dc__law_in_row pm__law_in_row cd__law_in_row ct__law_in_row : Value} {od__law_in_row an__law_in_row : Option Addr} {sl__law_in_row : Array (Option Value)} {f__law_is_faulty : Addr} {oc__law_is_faulty kV__law_is_faulty dc__law_is_faulty pm__law_is_faulty cd__law_is_faulty ct__law_is_faulty : Value} {od__law_is_faulty an__law_is_faulty : Option Addr} {sl__law_is_faulty : Array (Option Value)} {f__law_due : Addr} {oc__law_due kV__law_due dc__law_due pm__law_due cd__law_due ct__law_due : Value} {od__law_due an__law_due : Option Addr} {sl__law_due : Array (Option Value)} {f__law_bad_name : Addr} {oc__law_bad_name kV__law_bad_name dc__law_bad_name pm__law_bad_name cd__law_bad_name ct__law_bad_name : Value} {od__law_bad_name an__law_bad_name : Option Addr} {sl__law_bad_name : Array (Option Value)} {f__law_row_spoilt : Addr} {oc__law_row_spoilt kV__law_row_spoilt dc__law_row_spoilt pm__law_row_spoilt cd__law_row_spoilt ct__law_row_spoilt : Value} {od__law_row_spoilt an__law_row_spoilt : Option Addr} {sl__law_row_spoilt : Array (Option Value)} {f__law_rows_spoilt : Addr} {oc__law_rows_spoilt kV__law_rows_spoilt dc__law_rows_spoilt pm__law_rows_spoilt cd__law_rows_spoilt ct__law_rows_spoilt : Value} {od__law_rows_spoilt an__law_rows_spoilt : Option Addr} {sl__law_rows_spoilt : Array (Option Value)} {f__law_spoilt : Addr} {oc__law_spoilt kV__law_spoilt dc__law_spoilt pm__law_spoilt cd__law_spoilt ct__law_spoilt : Value} {od__law_spoilt an__law_spoilt : Option Addr} {sl__law_spoilt : Array (Option Value)} {f__law_refused : Addr} {oc__law_refused kV__law_refused dc__law_refused pm__law_refused cd__law_refused ct__law_refused : Value} {od__law_refused an__law_refused : Option Addr} {sl__law_refused : Array (Option Value)} {f__law_errors_right : Addr} {oc__law_errors_right kV__law_errors_right dc__law_errors_right pm__law_errors_right cd__law_errors_right ct__law_errors_right : Value} {od__law_errors_right an__law_errors_right : Option Addr} {sl__law_errors_right : Array (Option Value)} {f_law : Addr} {oc_law kV_law dc_law pm_law cd_law ct_law : Value} {od_law an_law : Option Addr} {sl_law : Array (Option Value)} {C_Program : Addr} {f_einit : Addr} {oc_einit kV_einit dc_einit pm_einit cd_einit ct_einit : Value} {od_einit an_einit : Option Addr} {sl_einit : Array (Option Value)} {E_NoProgram N_NoProgram : Addr} {nm_NoProgram qn_NoProgram : Str} {bs_NoProgram bm_NoProgram sub_NoProgram : List Value} {sn_NoProgram : List Str} {ab_NoProgram : Bool} {col_NoProgram : Option Bool} {dd_NoProgram : Option Addr} {m0_NoProgram m1_NoProgram m2_NoProgram m3_NoProgram m5_NoProgram : Option Value} {E_AskError N_AskError : Addr} {nm_AskError qn_AskError : Str} {bs_AskError bm_AskError sub_AskError : List Value} {sn_AskError : List Str} {ab_AskError : Bool} {col_AskError : Option Bool} {dd_AskError : Option Addr} {m0_AskError m1_AskError m2_AskError m3_AskError m5_AskError : Option Value} {E_NoText N_NoText : Addr} {nm_NoText qn_NoText : Str} {bs_NoText bm_NoText sub_NoText : List Value} {sn_NoText : List Str} {ab_NoText : Bool} {col_NoText : Option Bool} {dd_NoText : Option Addr} {m0_NoText m1_NoText m2_NoText m3_NoText m5_NoText : Option Value} {E_NoRules N_NoRules : Addr} {nm_NoRules qn_NoRules : Str} {bs_NoRules bm_NoRules sub_NoRules : List Value} {sn_NoRules : List Str} {ab_NoRules : Bool} {col_NoRules : Option Bool} {dd_NoRules : Option Addr} {m0_NoRules m1_NoRules m2_NoRules m3_NoRules m5_NoRules : Option Value} {E_NoRelation N_NoRelation : Addr} {nm_NoRelation qn_NoRelation : Str} {bs_NoRelation bm_NoRelation sub_NoRelation : List Value} {sn_NoRelation : List Str} {ab_NoRelation : Bool} {col_NoRelation : Option Bool} {dd_NoRelation : Option Addr} {m0_NoRelation m1_NoRelation m2_NoRelation m3_NoRelation m5_NoRelation : Option Value} {E_NoPlace N_NoPlace : Addr} {nm_NoPlace qn_NoPlace : Str} {bs_NoPlace bm_NoPlace sub_NoPlace : List Value} {sn_NoPlace : List Str} {ab_NoPlace : Bool} {col_NoPlace : Option Bool} {dd_NoPlace : Option Addr} {m0_NoPlace m1_NoPlace m2_NoPlace m3_NoPlace m5_NoPlace : Option Value} {E_NoFinding N_NoFinding : Addr} {nm_NoFinding qn_NoFinding : Str} {bs_NoFinding bm_NoFinding sub_NoFinding : List Value} {sn_NoFinding : List Str} {ab_NoFinding : Bool} {col_NoFinding : Option Bool} {dd_NoFinding : Option Addr} {m0_NoFinding m1_NoFinding m2_NoFinding m3_NoFinding m5_NoFinding : Option Value} {k_LETTERS : Tok} {k_MOST_LETTERS : Tok} {k_MAIN : Tok}
  (l_is_name : K.lookup f_is_name = some ⟨oc_is_name, od_is_name, .func (PySem.W.fnOf "is_name" "is_name" (defArgs (topS 12)) (defBody (topS 12)) (defScope (topS 12)) .none kV_is_name dc_is_name pm_is_name an_is_name cd_is_name ct_is_name), sl_is_name⟩) (c_is_name : PySem.W.codeIn K cd_is_name "is_name" = true) (k_is_name : PySem.W.keepIn K (.ref f_is_name) = true)
  (a_is_name : PySem.W.nsIn K mainGlobals "is_name" = some (some (.ref f_is_name)))
  (l_each_row : K.lookup f_each_row = some ⟨oc_each_row, od_each_row, .func (PySem.W.fnOf "each_row" "each_row" (defArgs (topS 13)) (defBody (topS 13)) (defScope (topS 13)) .none kV_each_row dc_each_row pm_each_row an_each_row cd_each_row ct_each_row), sl_each_row⟩) (c_each_row : PySem.W.codeIn K cd_each_row "each_row" = true) (k_each_row : PySem.W.keepIn K (.ref f_each_row) = true)
  (a_each_row : PySem.W.nsIn K mainGlobals "each_row" = some (some (.ref f_each_row)))
  (l_names_asked : K.lookup f_names_asked = some ⟨oc_names_asked, od_names_asked, .func (PySem.W.fnOf "names_asked" "names_asked" (defArgs (topS 14)) (defBody (topS 14)) (defScope (topS 14)) .none kV_names_asked dc_names_asked pm_names_asked an_names_asked cd_names_asked ct_names_asked), sl_names_asked⟩) (c_names_asked : PySem.W.codeIn K cd_names_asked "names_asked" = true) (k_names_asked : PySem.W.keepIn K (.ref f_names_asked) = true)
  (a_names_asked : PySem.W.nsIn K mainGlobals "names_asked" = some (some (.ref f_names_asked)))
  (l_call_of : K.lookup f_call_of = some ⟨oc_call_of, od_call_of, .func (PySem.W.fnOf "call_of" "call_of" (defArgs (topS 15)) (defBody (topS 15)) (defScope (topS 15)) .none kV_call_of dc_call_of pm_call_of an_call_of cd_call_of ct_call_of), sl_call_of⟩) (c_call_of : PySem.W.codeIn K cd_call_of "call_of" = true) (k_call_of : PySem.W.keepIn K (.ref f_call_of) = true)
  (a_call_of : PySem.W.nsIn K mainGlobals "call_of" = some (some (.ref f_call_of)))
  (l_names_in : K.lookup f_names_in = some ⟨oc_names_in, od_names_in, .func (PySem.W.fnOf "names_in" "names_in" (defArgs (topS 16)) (defBody (topS 16)) (defScope (topS 16)) .none kV_names_in dc_names_in pm_names_in an_names_in cd_names_in ct_names_in), sl_names_in⟩) (c_names_in : PySem.W.codeIn K cd_names_in "names_in" = true) (k_names_in : PySem.W.keepIn K (.ref f_names_in) = true)
  (a_names_in : PySem.W.nsIn K mainGlobals "names_in" = some (some (.ref f_names_in)))
  (l_is_sound : K.lookup f_is_sound = some ⟨oc_is_sound, od_is_sound, .func (PySem.W.fnOf "is_sound" "is_sound" (defArgs (topS 17)) (defBody (topS 17)) (defScope (topS 17)) .none kV_is_sound dc_is_sound pm_is_sound an_is_sound cd_is_sound ct_is_sound), sl_is_sound⟩) (c_is_sound : PySem.W.codeIn K cd_is_sound "is_sound" = true) (k_is_sound : PySem.W.keepIn K (.ref f_is_sound) = true)
  (a_is_sound : PySem.W.nsIn K mainGlobals "is_sound" = some (some (.ref f_is_sound)))
  (l_Program_init : K.lookup f_Program_init = some ⟨oc_Program_init, od_Program_init, .func (PySem.W.fnOf "__init__" "Program.__init__" (defArgs (inClass (topS 18) 0)) (defBody (inClass (topS 18) 0)) (defScope (inClass (topS 18) 0)) .none kV_Program_init dc_Program_init pm_Program_init an_Program_init cd_Program_init ct_Program_init), sl_Program_init⟩) (c_Program_init : PySem.W.codeIn K cd_Program_init "Program.__init__" = true) (k_Program_init : PySem.W.keepIn K (.ref f_Program_init) = true)
  (l__law_tray : K.lookup f__law_tray = some ⟨oc__law_tray, od__law_tray, .func (PySem.W.fnOf "_law_tray" "_law_tray" (defArgs (topS 20)) (defBody (topS 20)) (defScope (topS 20)) .none kV__law_tray dc__law_tray pm__law_tray an__law_tray cd__law_tray ct__law_tray), sl__law_tray⟩) (c__law_tray : PySem.W.codeIn K cd__law_tray "_law_tray" = true) (k__law_tray : PySem.W.keepIn K (.ref f__law_tray) = true)
  (a__law_tray : PySem.W.nsIn K mainGlobals "_law_tray" = some (some (.ref f__law_tray)))
  (l__law_draw : K.lookup f__law_draw = some ⟨oc__law_draw, od__law_draw, .func (PySem.W.fnOf "_law_draw" "_law_draw" (defArgs (topS 21)) (defBody (topS 21)) (defScope (topS 21)) .none kV__law_draw dc__law_draw pm__law_draw an__law_draw cd__law_draw ct__law_draw), sl__law_draw⟩) (c__law_draw : PySem.W.codeIn K cd__law_draw "_law_draw" = true) (k__law_draw : PySem.W.keepIn K (.ref f__law_draw) = true)
  (a__law_draw : PySem.W.nsIn K mainGlobals "_law_draw" = some (some (.ref f__law_draw)))
  (l__law_great : K.lookup f__law_great = some ⟨oc__law_great, od__law_great, .func (PySem.W.fnOf "_law_great" "_law_great" (defArgs (topS 22)) (defBody (topS 22)) (defScope (topS 22)) .none kV__law_great dc__law_great pm__law_great an__law_great cd__law_great ct__law_great), sl__law_great⟩) (c__law_great : PySem.W.codeIn K cd__law_great "_law_great" = true) (k__law_great : PySem.W.keepIn K (.ref f__law_great) = true)
  (a__law_great : PySem.W.nsIn K mainGlobals "_law_great" = some (some (.ref f__law_great)))
  (l__law_name : K.lookup f__law_name = some ⟨oc__law_name, od__law_name, .func (PySem.W.fnOf "_law_name" "_law_name" (defArgs (topS 23)) (defBody (topS 23)) (defScope (topS 23)) .none kV__law_name dc__law_name pm__law_name an__law_name cd__law_name ct__law_name), sl__law_name⟩) (c__law_name : PySem.W.codeIn K cd__law_name "_law_name" = true) (k__law_name : PySem.W.keepIn K (.ref f__law_name) = true)
  (a__law_name : PySem.W.nsIn K mainGlobals "_law_name" = some (some (.ref f__law_name)))
  (l__law_names : K.lookup f__law_names = some ⟨oc__law_names, od__law_names, .func (PySem.W.fnOf "_law_names" "_law_names" (defArgs (topS 24)) (defBody (topS 24)) (defScope (topS 24)) .none kV__law_names dc__law_names pm__law_names an__law_names cd__law_names ct__law_names), sl__law_names⟩) (c__law_names : PySem.W.codeIn K cd__law_names "_law_names" = true) (k__law_names : PySem.W.keepIn K (.ref f__law_names) = true)
  (a__law_names : PySem.W.nsIn K mainGlobals "_law_names" = some (some (.ref f__law_names)))
  (l__law_whole : K.lookup f__law_whole = some ⟨oc__law_whole, od__law_whole, .func (PySem.W.fnOf "_law_whole" "_law_whole" (defArgs (topS 25)) (defBody (topS 25)) (defScope (topS 25)) .none kV__law_whole dc__law_whole pm__law_whole an__law_whole cd__law_whole ct__law_whole), sl__law_whole⟩) (c__law_whole : PySem.W.codeIn K cd__law_whole "_law_whole" = true) (k__law_whole : PySem.W.keepIn K (.ref f__law_whole) = true)
  (a__law_whole : PySem.W.nsIn K mainGlobals "_law_whole" = some (some (.ref f__law_whole)))
  (l__law_value : K.lookup f__law_value = some ⟨oc__law_value, od__law_value, .func (PySem.W.fnOf "_law_value" "_law_value" (defArgs (topS 26)) (defBody (topS 26)) (defScope (topS 26)) .none kV__law_value dc__law_value pm__law_value an__law_value cd__law_value ct__law_value), sl__law_value⟩) (c__law_value : PySem.W.codeIn K cd__law_value "_law_value" = true) (k__law_value : PySem.W.keepIn K (.ref f__law_value) = true)
  (a__law_value : PySem.W.nsIn K mainGlobals "_law_value" = some (some (.ref f__law_value)))
  (l__law_row : K.lookup f__law_row = some ⟨oc__law_row, od__law_row, .func (PySem.W.fnOf "_law_row" "_law_row" (defArgs (topS 27)) (defBody (topS 27)) (defScope (topS 27)) .none kV__law_row dc__law_row pm__law_row an__law_row cd__law_row ct__law_row), sl__law_row⟩) (c__law_row : PySem.W.codeIn K cd__law_row "_law_row" = true) (k__law_row : PySem.W.keepIn K (.ref f__law_row) = true)
  (a__law_row : PySem.W.nsIn K mainGlobals "_law_row" = some (some (.ref f__law_row)))
  (l__law_rows : K.lookup f__law_rows = some ⟨oc__law_rows, od__law_rows, .func (PySem.W.fnOf "_law_rows" "_law_rows" (defArgs (topS 28)) (defBody (topS 28)) (defScope (topS 28)) .none kV__law_rows dc__law_rows pm__law_rows an__law_rows cd__law_rows ct__law_rows), sl__law_rows⟩) (c__law_rows : PySem.W.codeIn K cd__law_rows "_law_rows" = true) (k__law_rows : PySem.W.keepIn K (.ref f__law_rows) = true)
  (a__law_rows : PySem.W.nsIn K mainGlobals "_law_rows" = some (some (.ref f__law_rows)))
  (l__law_program : K.lookup f__law_program = some ⟨oc__law_program, od__law_program, .func (PySem.W.fnOf "_law_program" "_law_program" (defArgs (topS 29)) (defBody (topS 29)) (defScope (topS 29)) .none kV__law_program dc__law_program pm__law_program an__law_program cd__law_program ct__law_program), sl__law_program⟩) (c__law_program : PySem.W.codeIn K cd__law_program "_law_program" = true) (k__law_program : PySem.W.keepIn K (.ref f__law_program) = true)
  (a__law_program : PySem.W.nsIn K mainGlobals "_law_program" = some (some (.ref f__law_program)))
  (l__law_each : K.lookup f__law_each = some ⟨oc__law_each, od__law_each, .func (PySem.W.fnOf "_law_each" "_law_each" (defArgs (topS 30)) (defBody (topS 30)) (defScope (topS 30)) .none kV__law_each dc__law_each pm__law_each an__law_each cd__law_each ct__law_each), sl__law_each⟩) (c__law_each : PySem.W.codeIn K cd__law_each "_law_each" = true) (k__law_each : PySem.W.keepIn K (.ref f__law_each) = true)
  (a__law_each : PySem.W.nsIn K mainGlobals "_law_each" = some (some (.ref f__law_each)))
  (l__law_is_name : K.lookup f__law_is_name = some ⟨oc__law_is_name, od__law_is_name, .func (PySem.W.fnOf "_law_is_name" "_law_is_name" (defArgs (topS 31)) (defBody (topS 31)) (defScope (topS 31)) .none kV__law_is_name dc__law_is_name pm__law_is_name an__law_is_name cd__law_is_name ct__law_is_name), sl__law_is_name⟩) (c__law_is_name : PySem.W.codeIn K cd__law_is_name "_law_is_name" = true) (k__law_is_name : PySem.W.keepIn K (.ref f__law_is_name) = true)
  (a__law_is_name : PySem.W.nsIn K mainGlobals "_law_is_name" = some (some (.ref f__law_is_name)))
  (l__law_in_row : K.lookup f__law_in_row = some ⟨oc__law_in_row, od__law_in_row, .func (PySem.W.fnOf "_law_in_row" "_law_in_row" (defArgs (topS 32)) (defBody (topS 32)) (defScope (topS 32)) .none kV__law_in_row dc__law_in_row pm__law_in_row an__law_in_row cd__law_in_row ct__law_in_row), sl__law_in_row⟩) (c__law_in_row : PySem.W.codeIn K cd__law_in_row "_law_in_row" = true) (k__law_in_row : PySem.W.keepIn K (.ref f__law_in_row) = true)
  (a__law_in_row : PySem.W.nsIn K mainGlobals "_law_in_row" = some (some (.ref f__law_in_row)))
  (l__law_is_faulty : K.lookup f__law_is_faulty = some ⟨oc__law_is_faulty, od__law_is_faulty, .func (PySem.W.fnOf "_law_is_faulty" "_law_is_faulty" (defArgs (topS 33)) (defBody (topS 33)) (defScope (topS 33)) .none kV__law_is_faulty dc__law_is_faulty pm__law_is_faulty an__law_is_faulty cd__law_is_faulty ct__law_is_faulty), sl__law_is_faulty⟩) (c__law_is_faulty : PySem.W.codeIn K cd__law_is_faulty "_law_is_faulty" = true) (k__law_is_faulty : PySem.W.keepIn K (.ref f__law_is_faulty) = true)
  (a__law_is_faulty : PySem.W.nsIn K mainGlobals "_law_is_faulty" = some (some (.ref f__law_is_faulty)))
  (l__law_due : K.lookup f__law_due = some ⟨oc__law_due, od__law_due, .func (PySem.W.fnOf "_law_due" "_law_due" (defArgs (topS 34)) (defBody (topS 34)) (defScope (topS 34)) .none kV__law_due dc__law_due pm__law_due an__law_due cd__law_due ct__law_due), sl__law_due⟩) (c__law_due : PySem.W.codeIn K cd__law_due "_law_due" = true) (k__law_due : PySem.W.keepIn K (.ref f__law_due) = true)
  (a__law_due : PySem.W.nsIn K mainGlobals "_law_due" = some (some (.ref f__law_due)))
  (l__law_bad_name : K.lookup f__law_bad_name = some ⟨oc__law_bad_name, od__law_bad_name, .func (PySem.W.fnOf "_law_bad_name" "_law_bad_name" (defArgs (topS 35)) (defBody (topS 35)) (defScope (topS 35)) .none kV__law_bad_name dc__law_bad_name pm__law_bad_name an__law_bad_name cd__law_bad_name ct__law_bad_name), sl__law_bad_name⟩) (c__law_bad_name : PySem.W.codeIn K cd__law_bad_name "_law_bad_name" = true) (k__law_bad_name : PySem.W.keepIn K (.ref f__law_bad_name) = true)
  (a__law_bad_name : PySem.W.nsIn K mainGlobals "_law_bad_name" = some (some (.ref f__law_bad_name)))
  (l__law_row_spoilt : K.lookup f__law_row_spoilt = some ⟨oc__law_row_spoilt, od__law_row_spoilt, .func (PySem.W.fnOf "_law_row_spoilt" "_law_row_spoilt" (defArgs (topS 36)) (defBody (topS 36)) (defScope (topS 36)) .none kV__law_row_spoilt dc__law_row_spoilt pm__law_row_spoilt an__law_row_spoilt cd__law_row_spoilt ct__law_row_spoilt), sl__law_row_spoilt⟩) (c__law_row_spoilt : PySem.W.codeIn K cd__law_row_spoilt "_law_row_spoilt" = true) (k__law_row_spoilt : PySem.W.keepIn K (.ref f__law_row_spoilt) = true)
  (a__law_row_spoilt : PySem.W.nsIn K mainGlobals "_law_row_spoilt" = some (some (.ref f__law_row_spoilt)))
  (l__law_rows_spoilt : K.lookup f__law_rows_spoilt = some ⟨oc__law_rows_spoilt, od__law_rows_spoilt, .func (PySem.W.fnOf "_law_rows_spoilt" "_law_rows_spoilt" (defArgs (topS 37)) (defBody (topS 37)) (defScope (topS 37)) .none kV__law_rows_spoilt dc__law_rows_spoilt pm__law_rows_spoilt an__law_rows_spoilt cd__law_rows_spoilt ct__law_rows_spoilt), sl__law_rows_spoilt⟩) (c__law_rows_spoilt : PySem.W.codeIn K cd__law_rows_spoilt "_law_rows_spoilt" = true) (k__law_rows_spoilt : PySem.W.keepIn K (.ref f__law_rows_spoilt) = true)
  (a__law_rows_spoilt : PySem.W.nsIn K mainGlobals "_law_rows_spoilt" = some (some (.ref f__law_rows_spoilt)))
  (l__law_spoilt : K.lookup f__law_spoilt = some ⟨oc__law_spoilt, od__law_spoilt, .func (PySem.W.fnOf "_law_spoilt" "_law_spoilt" (defArgs (topS 38)) (defBody (topS 38)) (defScope (topS 38)) .none kV__law_spoilt dc__law_spoilt pm__law_spoilt an__law_spoilt cd__law_spoilt ct__law_spoilt), sl__law_spoilt⟩) (c__law_spoilt : PySem.W.codeIn K cd__law_spoilt "_law_spoilt" = true) (k__law_spoilt : PySem.W.keepIn K (.ref f__law_spoilt) = true)
  (a__law_spoilt : PySem.W.nsIn K mainGlobals "_law_spoilt" = some (some (.ref f__law_spoilt)))
  (l__law_refused : K.lookup f__law_refused = some ⟨oc__law_refused, od__law_refused, .func (PySem.W.fnOf "_law_refused" "_law_refused" (defArgs (topS 39)) (defBody (topS 39)) (defScope (topS 39)) .none kV__law_refused dc__law_refused pm__law_refused an__law_refused cd__law_refused ct__law_refused), sl__law_refused⟩) (c__law_refused : PySem.W.codeIn K cd__law_refused "_law_refused" = true) (k__law_refused : PySem.W.keepIn K (.ref f__law_refused) = true)
  (a__law_refused : PySem.W.nsIn K mainGlobals "_law_refused" = some (some (.ref f__law_refused)))
  (l__law_errors_right : K.lookup f__law_errors_right = some ⟨oc__law_errors_right, od__law_errors_right, .func (PySem.W.fnOf "_law_errors_right" "_law_errors_right" (defArgs (topS 40)) (defBody (topS 40)) (defScope (topS 40)) .none kV__law_errors_right dc__law_errors_right pm__law_errors_right an__law_errors_right cd__law_errors_right ct__law_errors_right), sl__law_errors_right⟩) (c__law_errors_right : PySem.W.codeIn K cd__law_errors_right "_law_errors_right" = true) (k__law_errors_right : PySem.W.keepIn K (.ref f__law_errors_right) = true)
  (a__law_errors_right : PySem.W.nsIn K mainGlobals "_law_errors_right" = some (some (.ref f__law_errors_right)))
  (l_law : K.lookup f_law = some ⟨oc_law, od_law, .func (PySem.W.fnOf "law" "law" (defArgs (topS 41)) (defBody (topS 41)) (defScope (topS 41)) .none kV_law dc_law pm_law an_law cd_law ct_law), sl_law⟩) (c_law : PySem.W.codeIn K cd_law "law" = true) (k_law : PySem.W.keepIn K (.ref f_law) = true)
  (a_law : PySem.W.nsIn K mainGlobals "law" = some (some (.ref f_law)))
  (a_Program : PySem.W.nsIn K mainGlobals "Program" = some (some (.ref C_Program))) (pg_Program : PySem.W.plainGet K C_Program Str.empty = true) (hd_Program : PySem.W.hasDictIn K C_Program = true) (po_Program : PySem.W.plainOver K C_Program = true) (sa_Program : PySem.W.findIn K (.ref C_Program) "__setattr__" = some (some (.builtin "object.__setattr__"))) (mk_Program : PySem.W.makesIn K C_Program = true) (kc_Program : PySem.W.keepIn K (.ref C_Program) = true)
  (at_Program_init : PySem.W.findIn K (.ref C_Program) "__init__" = some (some (.ref f_Program_init))) (i_Program_init : PySem.W.isFn K (.ref f_Program_init) = true)
  (na_definitions_kept : PySem.W.findIn K (.ref C_Program) "definitions_kept" = some none)
  (l_einit : K.lookup f_einit = some ⟨oc_einit, od_einit, .func (PySem.W.fnOf "__init__" "AskError.__init__" (defArgs (inClass (topS 1) 0)) (defBody (inClass (topS 1) 0)) (defScope (inClass (topS 1) 0)) .none kV_einit dc_einit pm_einit an_einit cd_einit ct_einit), sl_einit⟩) (c_einit : PySem.W.codeIn K cd_einit "AskError.__init__" = true) (k_einit : PySem.W.keepIn K (.ref f_einit) = true) (ti_einit : PySem.W.typeIn K (.ref f_einit) = some (.type "function"))
  (cg : PySem.W.specialIn K (.builtin "object.__class__") "__get__" = some (some (.builtin "getset_descriptor.__get__"))) (cta : PySem.W.takesIn K (.builtin "object.__class__") = some true)
  (a_NoProgram : PySem.W.nsIn K mainGlobals "NoProgram" = some (some (.ref E_NoProgram))) (xl_NoProgram : K.lookup E_NoProgram = some (PySem.excClassObj nm_NoProgram qn_NoProgram E_NoProgram N_NoProgram bs_NoProgram bm_NoProgram true sn_NoProgram sub_NoProgram ab_NoProgram col_NoProgram dd_NoProgram m0_NoProgram m1_NoProgram m2_NoProgram m3_NoProgram m5_NoProgram "ValueError.__new__")) (rv_NoProgram : PySem.HandSPX.refsVE bm_NoProgram = true)
  (sa_NoProgram : PySem.W.findIn K (.ref E_NoProgram) "__setattr__" = some (some (.builtin "object.__setattr__"))) (be_NoProgram : PySem.W.subIn K (.ref E_NoProgram) (.type "BaseException") = some true) (ty_NoProgram : PySem.W.typeIn K (.ref E_NoProgram) = some (.type "type")) (kp_NoProgram : PySem.W.keepIn K (.ref E_NoProgram) = true) (at_xNoProgram : PySem.W.findIn K (.ref E_NoProgram) "__init__" = some (some (.ref f_einit))) (wn_NoProgram : PySem.W.findIn K (.ref E_NoProgram) "what" = some none) (hx_NoProgram : PySem.W.hasDictIn K E_NoProgram = true)
  (ga_NoProgram : PySem.W.findIn K (.ref E_NoProgram) "__getattribute__" = some (some (.builtin "BaseException.__getattribute__"))) (gg_NoProgram : PySem.W.findIn K (.ref E_NoProgram) "__getattr__" = some none) (cl_NoProgram : PySem.W.findIn K (.ref E_NoProgram) "__class__" = some (some (.builtin "object.__class__"))) (mo_NoProgram : PySem.W.mroIn K E_NoProgram (.type "object") = some true)
  (a_AskError : PySem.W.nsIn K mainGlobals "AskError" = some (some (.ref E_AskError))) (xl_AskError : K.lookup E_AskError = some (PySem.excClassObj nm_AskError qn_AskError E_AskError N_AskError bs_AskError bm_AskError true sn_AskError sub_AskError ab_AskError col_AskError dd_AskError m0_AskError m1_AskError m2_AskError m3_AskError m5_AskError "ValueError.__new__")) (rv_AskError : PySem.HandSPX.refsVE bm_AskError = true)
  (sa_AskError : PySem.W.findIn K (.ref E_AskError) "__setattr__" = some (some (.builtin "object.__setattr__"))) (be_AskError : PySem.W.subIn K (.ref E_AskError) (.type "BaseException") = some true) (ty_AskError : PySem.W.typeIn K (.ref E_AskError) = some (.type "type")) (kp_AskError : PySem.W.keepIn K (.ref E_AskError) = true) (at_xAskError : PySem.W.findIn K (.ref E_AskError) "__init__" = some (some (.ref f_einit))) (wn_AskError : PySem.W.findIn K (.ref E_AskError) "what" = some none) (hx_AskError : PySem.W.hasDictIn K E_AskError = true)
  (a_NoText : PySem.W.nsIn K mainGlobals "NoText" = some (some (.ref E_NoText))) (xl_NoText : K.lookup E_NoText = some (PySem.excClassObj nm_NoText qn_NoText E_NoText N_NoText bs_NoText bm_NoText true sn_NoText sub_NoText ab_NoText col_NoText dd_NoText m0_NoText m1_NoText m2_NoText m3_NoText m5_NoText "ValueError.__new__")) (rv_NoText : PySem.HandSPX.refsVE bm_NoText = true)
  (sa_NoText : PySem.W.findIn K (.ref E_NoText) "__setattr__" = some (some (.builtin "object.__setattr__"))) (be_NoText : PySem.W.subIn K (.ref E_NoText) (.type "BaseException") = some true) (ty_NoText : PySem.W.typeIn K (.ref E_NoText) = some (.type "type")) (kp_NoText : PySem.W.keepIn K (.ref E_NoText) = true) (at_xNoText : PySem.W.findIn K (.ref E_NoText) "__init__" = some (some (.ref f_einit))) (wn_NoText : PySem.W.findIn K (.ref E_NoText) "what" = some none) (hx_NoText : PySem.W.hasDictIn K E_NoText = true)
  (ga_NoText : PySem.W.findIn K (.ref E_NoText) "__getattribute__" = some (some (.builtin "BaseException.__getattribute__"))) (gg_NoText : PySem.W.findIn K (.ref E_NoText) "__getattr__" = some none) (cl_NoText : PySem.W.findIn K (.ref E_NoText) "__class__" = some (some (.builtin "object.__class__"))) (mo_NoText : PySem.W.mroIn K E_NoText (.type "object") = some true)
  (a_NoRules : PySem.W.nsIn K mainGlobals "NoRules" = some (some (.ref E_NoRules))) (xl_NoRules : K.lookup E_NoRules = some (PySem.excClassObj nm_NoRules qn_NoRules E_NoRules N_NoRules bs_NoRules bm_NoRules true sn_NoRules sub_NoRules ab_NoRules col_NoRules dd_NoRules m0_NoRules m1_NoRules m2_NoRules m3_NoRules m5_NoRules "ValueError.__new__")) (rv_NoRules : PySem.HandSPX.refsVE bm_NoRules = true)
  (sa_NoRules : PySem.W.findIn K (.ref E_NoRules) "__setattr__" = some (some (.builtin "object.__setattr__"))) (be_NoRules : PySem.W.subIn K (.ref E_NoRules) (.type "BaseException") = some true) (ty_NoRules : PySem.W.typeIn K (.ref E_NoRules) = some (.type "type")) (kp_NoRules : PySem.W.keepIn K (.ref E_NoRules) = true) (at_xNoRules : PySem.W.findIn K (.ref E_NoRules) "__init__" = some (some (.ref f_einit))) (wn_NoRules : PySem.W.findIn K (.ref E_NoRules) "what" = some none) (hx_NoRules : PySem.W.hasDictIn K E_NoRules = true)
  (ga_NoRules : PySem.W.findIn K (.ref E_NoRules) "__getattribute__" = some (some (.builtin "BaseException.__getattribute__"))) (gg_NoRules : PySem.W.findIn K (.ref E_NoRules) "__getattr__" = some none) (cl_NoRules : PySem.W.findIn K (.ref E_NoRules) "__class__" = some (some (.builtin "object.__class__"))) (mo_NoRules : PySem.W.mroIn K E_NoRules (.type "object") = some true)
  (a_NoRelation : PySem.W.nsIn K mainGlobals "NoRelation" = some (some (.ref E_NoRelation))) (xl_NoRelation : K.lookup E_NoRelation = some (PySem.excClassObj nm_NoRelation qn_NoRelation E_NoRelation N_NoRelation bs_NoRelation bm_NoRelation true sn_NoRelation sub_NoRelation ab_NoRelation col_NoRelation dd_NoRelation m0_NoRelation m1_NoRelation m2_NoRelation m3_NoRelation m5_NoRelation "ValueError.__new__")) (rv_NoRelation : PySem.HandSPX.refsVE bm_NoRelation = true)
  (sa_NoRelation : PySem.W.findIn K (.ref E_NoRelation) "__setattr__" = some (some (.builtin "object.__setattr__"))) (be_NoRelation : PySem.W.subIn K (.ref E_NoRelation) (.type "BaseException") = some true) (ty_NoRelation : PySem.W.typeIn K (.ref E_NoRelation) = some (.type "type")) (kp_NoRelation : PySem.W.keepIn K (.ref E_NoRelation) = true) (at_xNoRelation : PySem.W.findIn K (.ref E_NoRelation) "__init__" = some (some (.ref f_einit))) (wn_NoRelation : PySem.W.findIn K (.ref E_NoRelation) "what" = some none) (hx_NoRelation : PySem.W.hasDictIn K E_NoRelation = true)
  (ga_NoRelation : PySem.W.findIn K (.ref E_NoRelation) "__getattribute__" = some (some (.builtin "BaseException.__getattribute__"))) (gg_NoRelation : PySem.W.findIn K (.ref E_NoRelation) "__getattr__" = some none) (cl_NoRelation : PySem.W.findIn K (.ref E_NoRelation) "__class__" = some (some (.builtin "object.__class__"))) (mo_NoRelation : PySem.W.mroIn K E_NoRelation (.type "object") = some true)
  (a_NoPlace : PySem.W.nsIn K mainGlobals "NoPlace" = some (some (.ref E_NoPlace))) (xl_NoPlace : K.lookup E_NoPlace = some (PySem.excClassObj nm_NoPlace qn_NoPlace E_NoPlace N_NoPlace bs_NoPlace bm_NoPlace true sn_NoPlace sub_NoPlace ab_NoPlace col_NoPlace dd_NoPlace m0_NoPlace m1_NoPlace m2_NoPlace m3_NoPlace m5_NoPlace "ValueError.__new__")) (rv_NoPlace : PySem.HandSPX.refsVE bm_NoPlace = true)
  (sa_NoPlace : PySem.W.findIn K (.ref E_NoPlace) "__setattr__" = some (some (.builtin "object.__setattr__"))) (be_NoPlace : PySem.W.subIn K (.ref E_NoPlace) (.type "BaseException") = some true) (ty_NoPlace : PySem.W.typeIn K (.ref E_NoPlace) = some (.type "type")) (kp_NoPlace : PySem.W.keepIn K (.ref E_NoPlace) = true) (at_xNoPlace : PySem.W.findIn K (.ref E_NoPlace) "__init__" = some (some (.ref f_einit))) (wn_NoPlace : PySem.W.findIn K (.ref E_NoPlace) "what" = some none) (hx_NoPlace : PySem.W.hasDictIn K E_NoPlace = true)
  (ga_NoPlace : PySem.W.findIn K (.ref E_NoPlace) "__getattribute__" = some (some (.builtin "BaseException.__getattribute__"))) (gg_NoPlace : PySem.W.findIn K (.ref E_NoPlace) "__getattr__" = some none) (cl_NoPlace : PySem.W.findIn K (.ref E_NoPlace) "__class__" = some (some (.builtin "object.__class__"))) (mo_NoPlace : PySem.W.mroIn K E_NoPlace (.type "object") = some true)
  (a_NoFinding : PySem.W.nsIn K mainGlobals "NoFinding" = some (some (.ref E_NoFinding))) (xl_NoFinding : K.lookup E_NoFinding = some (PySem.excClassObj nm_NoFinding qn_NoFinding E_NoFinding N_NoFinding bs_NoFinding bm_NoFinding true sn_NoFinding sub_NoFinding ab_NoFinding col_NoFinding dd_NoFinding m0_NoFinding m1_NoFinding m2_NoFinding m3_NoFinding m5_NoFinding "ValueError.__new__")) (rv_NoFinding : PySem.HandSPX.refsVE bm_NoFinding = true)
  (sa_NoFinding : PySem.W.findIn K (.ref E_NoFinding) "__setattr__" = some (some (.builtin "object.__setattr__"))) (be_NoFinding : PySem.W.subIn K (.ref E_NoFinding) (.type "BaseException") = some true) (ty_NoFinding : PySem.W.typeIn K (.ref E_NoFinding) = some (.type "type")) (kp_NoFinding : PySem.W.keepIn K (.ref E_NoFinding) = true) (at_xNoFinding : PySem.W.findIn K (.ref E_NoFinding) "__init__" = some (some (.ref f_einit))) (wn_NoFinding : PySem.W.findIn K (.ref E_NoFinding) "what" = some none) (hx_NoFinding : PySem.W.hasDictIn K E_NoFinding = true)
  (ga_NoFinding : PySem.W.findIn K (.ref E_NoFinding) "__getattribute__" = some (some (.builtin "BaseException.__getattribute__"))) (gg_NoFinding : PySem.W.findIn K (.ref E_NoFinding) "__getattr__" = some none) (cl_NoFinding : PySem.W.findIn K (.ref E_NoFinding) "__class__" = some (some (.builtin "object.__class__"))) (mo_NoFinding : PySem.W.mroIn K E_NoFinding (.type "object") = some true)
  (ne_NoProgram_AskError : (Value.ref E_NoProgram == Value.ref E_AskError) = false)
  (ne_NoProgram_NoFinding : (Value.ref E_NoProgram == Value.ref E_NoFinding) = false)
  (ne_NoProgram_NoPlace : (Value.ref E_NoProgram == Value.ref E_NoPlace) = false)
  (ne_NoProgram_NoRelation : (Value.ref E_NoProgram == Value.ref E_NoRelation) = false)
  (ne_NoProgram_NoRules : (Value.ref E_NoProgram == Value.ref E_NoRules) = false)
  (ne_NoProgram_NoText : (Value.ref E_NoProgram == Value.ref E_NoText) = false)
  (sub_NoProgram_NoProgram : PySem.W.subIn K (.ref E_NoProgram) (.ref E_NoProgram) = some true)
  (sub_NoProgram_AskError : PySem.W.subIn K (.ref E_NoProgram) (.ref E_AskError) = some true)
  (sub_NoProgram_ValueError : PySem.W.subIn K (.ref E_NoProgram) (.type "ValueError") = some true)
  (sub_NoProgram_NoFinding : PySem.W.subIn K (.ref E_NoProgram) (.ref E_NoFinding) = some false)
  (sub_NoProgram_NoPlace : PySem.W.subIn K (.ref E_NoProgram) (.ref E_NoPlace) = some false)
  (sub_NoProgram_NoRelation : PySem.W.subIn K (.ref E_NoProgram) (.ref E_NoRelation) = some false)
  (sub_NoProgram_NoRules : PySem.W.subIn K (.ref E_NoProgram) (.ref E_NoRules) = some false)
  (sub_NoProgram_NoText : PySem.W.subIn K (.ref E_NoProgram) (.ref E_NoText) = some false)
  (c_LETTERS : PySem.W.nsIn K mainGlobals "LETTERS" = some (some (.str "abcdefghijklmnopqrstuvwxyz" k_LETTERS)))
  (c_MOST_LETTERS : PySem.W.nsIn K mainGlobals "MOST_LETTERS" = some (some (.int 8 k_MOST_LETTERS)))
  (c_MAIN : PySem.W.nsIn K mainGlobals "MAIN" = some (some (.str "main" k_MAIN)))
  (n_ValueError : PySem.W.nsIn K mainGlobals "ValueError" = some none)
  (n_all : PySem.W.nsIn K mainGlobals "all" = some none)
  (n_dict : PySem.W.nsIn K mainGlobals "dict" = some none)
  (n_isinstance : PySem.W.nsIn K mainGlobals "isinstance" = some none)
  (n_len : PySem.W.nsIn K mainGlobals "len" = some none)
  (n_list : PySem.W.nsIn K mainGlobals "list" = some none)
  (n_max : PySem.W.nsIn K mainGlobals "max" = some none)
  (n_min : PySem.W.nsIn K mainGlobals "min" = some none)
  (n_range : PySem.W.nsIn K mainGlobals "range" = some none)
  (n_set : PySem.W.nsIn K mainGlobals "set" = some none)
  (n_tuple : PySem.W.nsIn K mainGlobals "tuple" = some none) :
  ∃ fd : FuncData, (∀ (s : Shared) (u : Value), BindsTo s fd ⟨[u], []⟩ [("_law_script", u)]) ∧ ∀ base : Heap, K.In base → base.Ns mainGlobals mg → FnOk l.prog w K mg base (L2.CX l.prog w) 15 fa fd ["_law_script"] (spLaw K 63) := by
  have e := hfa.symm.trans (PySem.W.mg_of X G a_law)
  cases e
  exact ⟨_, fun s v => .of_eq rfl, fun base _ _ => fn_law hmain (ok_law (mkTx X G l_is_name c_is_name k_is_name a_is_name l_each_row c_each_row k_each_row a_each_row l_names_asked c_names_asked k_names_asked a_names_asked l_call_of c_call_of k_call_of a_call_of l_names_in c_names_in k_names_in a_names_in l_is_sound c_is_sound k_is_sound a_is_sound l_Program_init c_Program_init k_Program_init l__law_tray c__law_tray k__law_tray a__law_tray l__law_draw c__law_draw k__law_draw a__law_draw l__law_great c__law_great k__law_great a__law_great l__law_name c__law_name k__law_name a__law_name l__law_names c__law_names k__law_names a__law_names l__law_whole c__law_whole k__law_whole a__law_whole l__law_value c__law_value k__law_value a__law_value l__law_row c__law_row k__law_row a__law_row l__law_rows c__law_rows k__law_rows a__law_rows l__law_program c__law_program k__law_program a__law_program l__law_each c__law_each k__law_each a__law_each l__law_is_name c__law_is_name k__law_is_name a__law_is_name l__law_in_row c__law_in_row k__law_in_row a__law_in_row l__law_is_faulty c__law_is_faulty k__law_is_faulty a__law_is_faulty l__law_due c__law_due k__law_due a__law_due l__law_bad_name c__law_bad_name k__law_bad_name a__law_bad_name l__law_row_spoilt c__law_row_spoilt k__law_row_spoilt a__law_row_spoilt l__law_rows_spoilt c__law_rows_spoilt k__law_rows_spoilt a__law_rows_spoilt l__law_spoilt c__law_spoilt k__law_spoilt a__law_spoilt l__law_refused c__law_refused k__law_refused a__law_refused l__law_errors_right c__law_errors_right k__law_errors_right a__law_errors_right l_law c_law k_law a_law a_Program pg_Program hd_Program po_Program sa_Program mk_Program kc_Program at_Program_init i_Program_init na_definitions_kept l_einit c_einit k_einit ti_einit cg cta a_NoProgram xl_NoProgram rv_NoProgram sa_NoProgram be_NoProgram ty_NoProgram kp_NoProgram at_xNoProgram wn_NoProgram hx_NoProgram ga_NoProgram gg_NoProgram cl_NoProgram mo_NoProgram a_AskError xl_AskError rv_AskError sa_AskError be_AskError ty_AskError kp_AskError at_xAskError wn_AskError hx_AskError a_NoText xl_NoText rv_NoText sa_NoText be_NoText ty_NoText kp_NoText at_xNoText wn_NoText hx_NoText ga_NoText gg_NoText cl_NoText mo_NoText a_NoRules xl_NoRules rv_NoRules sa_NoRules be_NoRules ty_NoRules kp_NoRules at_xNoRules wn_NoRules hx_NoRules ga_NoRules gg_NoRules cl_NoRules mo_NoRules a_NoRelation xl_NoRelation rv_NoRelation sa_NoRelation be_NoRelation ty_NoRelation kp_NoRelation at_xNoRelation wn_NoRelation hx_NoRelation ga_NoRelation gg_NoRelation cl_NoRelation mo_NoRelation a_NoPlace xl_NoPlace rv_NoPlace sa_NoPlace be_NoPlace ty_NoPlace kp_NoPlace at_xNoPlace wn_NoPlace hx_NoPlace ga_NoPlace gg_NoPlace cl_NoPlace mo_NoPlace a_NoFinding xl_NoFinding rv_NoFinding sa_NoFinding be_NoFinding ty_NoFinding kp_NoFinding at_xNoFinding wn_NoFinding hx_NoFinding ga_NoFinding gg_NoFinding cl_NoFinding mo_NoFinding ne_NoProgram_AskError ne_NoProgram_NoFinding ne_NoProgram_NoPlace ne_NoProgram_NoRelation ne_NoProgram_NoRules ne_NoProgram_NoText sub_NoProgram_NoProgram sub_NoProgram_AskError sub_NoProgram_ValueError sub_NoProgram_NoFinding sub_NoProgram_NoPlace sub_NoProgram_NoRelation sub_NoProgram_NoRules sub_NoProgram_NoText c_LETTERS c_MOST_LETTERS c_MAIN n_ValueError n_all n_dict n_isinstance n_len n_list n_max n_min n_range n_set n_tuple))⟩
end K02
namespace K02
open PySem PySem.Spec PyProof.Rows L2 PL
/-- the tray at t, its great ones at g, at most B draws of the second kind so far -/
structure Tray (t g : Nat) (B : Nat) (S : Sto) : Prop where
  ne : t ≠ g
  ex : ∃ (gs : List Int) (b f c : Int), S[t]? = some (.lst [.loc g, .int b, .int f, .int c]) ∧ S[g]? = some (.lst (gs.map PV.int)) ∧ 0 ≤ f ∧ f < 2305843009213693951 ∧ 0 ≤ c ∧ c ≤ B
theorem Tray.keep {t g B : Nat} {M : List Nat} {S S' : Sto} (T : Tray t g B S) (k : Keep M S S') (ht : t ∉ M) (hg : g ∉ M) : Tray t g B S' := by
  obtain ⟨gs, b, f, c, h1, h2, h3⟩ := T.ex
  exact ⟨T.ne, gs, b, f, c, k.get h1 ht, k.get h2 hg, h3⟩
theorem Tray.up {t g B B' : Nat} {S : Sto} (T : Tray t g B S) (h : B ≤ B') : Tray t g B' S := by
  obtain ⟨gs, b, f, c, h1, h2, h3, h4, h5, h6⟩ := T.ex
  exact ⟨T.ne, gs, b, f, c, h1, h2, h3, h4, h5, by omega⟩
theorem Tray.lt {t g B : Nat} {S : Sto} (T : Tray t g B S) : t < S.length ∧ g < S.length := by
  obtain ⟨gs, b, f, c, h1, h2, _⟩ := T.ex
  exact ⟨lt_of_get h1, lt_of_get h2⟩
theorem map_split {α β : Type} {f : α → β} {ns : List α} {dn rs : List β} {p : β} (h : ns.map f = dn ++ p :: rs) : ∃ n, p = f n ∧ n ∈ ns := by
  have : p ∈ ns.map f := by rw [h]; simp
  obtain ⟨n, hn, e⟩ := List.mem_map.mp this
  exact ⟨n, e.symm, hn⟩
theorem tray_wp {ns : List Int} (hn : ns.length ≤ 63) {P : PV → Sto → Prop} {R : Str → PV → Sto → Prop} (h : ∀ t g S, Tray t g 0 S → P (.loc t) S) :
    wp (m__law_tray [.fls (ns.map PV.int)] []) P R := by
  unfold m__law_tray
  rw [callS_wp]
  simp [startE]
  refine forL_inv (fun dn rs τ S => ∃ (fold : Int) (gs : List Int) (x3 x4 : Option PV), τ = [some (.fls (ns.map PV.int)), some (.int fold), some (.loc 0), x3, x4] ∧ S = [.lst (gs.map PV.int)] ∧ 0 ≤ fold ∧ fold < 2305843009213693951 ∧ gs.length ≤ dn.length)
    ⟨_, [], _, _, rfl, rfl, by decide, by decide, Nat.le_refl _⟩ ?_ ?_
  · rintro dn p rs τ S e ⟨fold, gs, x3, x4, rfl, rfl, f0, f1, hl⟩
    obtain ⟨n, rfl, _⟩ := map_split e
    have hd : dn.length < 63 := by
      have := congrArg List.length e
      simp at this; omega
    simp
    exact ⟨fun _ => ⟨by omega, gs ++ [(if n < -n then -n else n) - 1000000000000000000], by simp, by omega, by omega, by simp; omega⟩, fun _ => ⟨gs, rfl, by omega, by omega, by omega⟩⟩
  · rintro τ S ⟨fold, gs, x3, x4, rfl, rfl, f0, f1, hl⟩
    simp
    exact h 1 0 _ ⟨by decide, gs, 0, fold, 0, rfl, rfl, f0, f1, by decide, by decide⟩
theorem draw_wp {t g B : Nat} {S : Sto} {m : Int} (T : Tray t g B S) (hB : B < 1000000000000000000) (hm : 0 < m) (hm2 : m ≤ 1000000000000000) {P : PV → Sto → Prop} {R : Str → PV → Sto → Prop}
    (h : ∀ (n : Int) S', 0 ≤ n → n < m → Tray t g (B + 1) S' → Keep [t, g] S S' → P (.int n) S') : wp (m__law_draw [.loc t, .int m] S) P R := by
  unfold m__law_draw
  rw [callS_wp]
  simp [startE]
  obtain ⟨gs, b, f, c, h1, h2, f0, f1, c0, c1⟩ := T.ex
  refine while_wp (fun m' τ S' => τ = [some (.loc t), some (.int m), none, none] ∧ Keep [t, g] S S' ∧ ∃ (gs : List Int) (b : Int), gs.length = m' ∧ S'[t]? = some (.lst [.loc g, .int b, .int f, .int c]) ∧ S'[g]? = some (.lst (gs.map PV.int)))
    ⟨rfl, .refl, gs, b, rfl, h1, h2⟩ ?_
  rintro m' τ S1 C J ⟨rfl, K, gs, b, rfl, q1, q2⟩ hT hF hJ
  have ne := T.ne
  have hend : ∀ S2, Keep [t, g] S S2 → S2[t]? = some (.lst [.loc g, .int b, .int f, .int c]) → S2[g]? = some (.lst (gs.map PV.int)) → C false S2 := by
    intro S2 K q1 q2
    refine hF S2 ?_
    simp [q1]
    constructor
    · intro hb
      refine ⟨hm, by omega, ?_⟩
      refine h _ _ (Int.emod_nonneg _ (by omega)) (Int.emod_lt_of_pos _ hm) ?_ (K.trans (.set (by simp)))
      exact ⟨T.ne, gs, b / m, f, c, set_get q1, by rw [List.getElem?_set_ne ne]; exact q2, f0, f1, c0, by omega⟩
    · intro hb
      simp [set_get q1]
      generalize hX : (f + 5) * (c + 1 + 2) ^ 3 + 1000003 * (c + 1) = X
      have x0 : 0 ≤ X % 2305843009213693951 := Int.emod_nonneg _ (by decide)
      have x1 : X % 2305843009213693951 < 2305843009213693951 := Int.emod_lt_of_pos _ (by decide)
      refine ⟨by omega, .inl ⟨by omega, by omega⟩, by omega, hm, ?_⟩
      refine h _ _ (Int.emod_nonneg _ (by omega)) (Int.emod_lt_of_pos _ hm) ?_ (K.trans (.set (by simp)))
      exact ⟨T.ne, gs, b, f, c + 1, set_get q1, by rw [List.getElem?_set_ne ne]; exact q2, f0, f1, by omega, by omega⟩
  simp [q1]
  constructor
  · intro hb
    have lt := lt_of_get q2
    have e2 : (S1 ++ [Ob.lst []])[g]? = some (.lst (gs.map PV.int)) := by rw [List.getElem?_append_left lt]; exact q2
    have e1 : (S1 ++ [Ob.lst []])[t]? = some (.lst [.loc g, .int b, .int f, .int c]) := by rw [List.getElem?_append_left (lt_of_get q1)]; exact q1
    obtain ⟨bb, he, hbb⟩ := eqB_lists (n := 0) (by decide) e2 (app_new (S := S1) (o := .lst [])) (PlL_iff.mpr fun x hx => by obtain ⟨i, _, rfl⟩ := List.mem_map.mp hx; simp [Pl]) (by simp [PlL])
    simp [he]
    have K2 : Keep [t, g] S (S1 ++ [Ob.lst []]) := K.trans .app
    cases hgs : gs with
    | nil =>
      have : bb = true := hbb.mpr (by simp [hgs])
      subst this
      exact hend _ K2 e1 e2
    | cons n gs' =>
      have : bb = false := by
        cases bb with
        | false => rfl
        | true => have := hbb.mp rfl; simp [hgs] at this
      subst this
      subst hgs
      refine hT _ ?_
      generalize hS2 : S1 ++ [Ob.lst []] = S2 at *
      have e3 : (S2.set g (.lst (gs'.map PV.int)))[t]? = some (.lst [.loc g, .int b, .int f, .int c]) := by rw [List.getElem?_set_ne (Ne.symm ne)]; exact e1
      have ix : ixN (gs'.length + 1) 0 = some 0 := by
        unfold ixN; rw [if_pos (by omega), if_pos (by omega)]; rfl
      simp [e1, e2, e3, ix]
      refine hJ gs'.length _ _ (by simp) ⟨rfl, (K2.trans (.set (by simp))).trans (.set (by simp)), gs', n, rfl, set_get e3, ?_⟩
      rw [List.getElem?_set_ne ne]
      exact set_get e2
  · intro hb
    exact hend _ K q1 q2
end K02
namespace K02
open PySem PySem.Spec PyProof.Rows L2 PL
theorem great_wp {t g B : Nat} {S : Sto} (T : Tray t g B S) (hB : B < 100000000000000000) {P : PV → Sto → Prop} {R : Str → PV → Sto → Prop}
    (h : ∀ (n : Int) S', Tray t g (B + 4) S' → Keep [t, g] S S' → P (.int n) S') : wp (m__law_great [.loc t] S) P R := by
  unfold m__law_great
  rw [callS_wp]
  simp [startE]
  refine draw_wp T (by omega) (by decide) (by decide) ?_
  intro n S1 _ _ T1 K1
  simp [rngOk]
  refine for_wp (fun dn rs τ S' => ∃ (n : Int) (x : Option PV), τ = [some (.loc t), some (.int n), x] ∧ Tray t g (B + 1 + dn.length) S' ∧ Keep [t, g] S S') ⟨n, none, rfl, T1, K1⟩ ?_ ?_
  · rintro dn p rs τ S2 J e ⟨n, x, rfl, T2, K2⟩ hJ
    have hd : dn.length < 3 := by
      have := congrArg List.length e
      simp [rngI] at this; omega
    simp
    refine draw_wp T2 (by omega) (by decide) (by decide) ?_
    intro n' S3 _ _ T3 K3
    simp
    exact hJ _ _ ⟨_, _, rfl, by simpa [Nat.add_assoc] using T3, K2.trans K3⟩
  · rintro τ S2 ⟨n, x, rfl, T2, K2⟩
    simp
    refine h _ _ (T2.up ?_) K2
    simp [rngI]
theorem whole_wp {t g B : Nat} {S : Sto} (T : Tray t g B S) (hB : B < 10000000000000000) {P : PV → Sto → Prop} {R : Str → PV → Sto → Prop}
    (h : ∀ (n : Int) S', Tray t g (B + 7) S' → Keep [t, g] S S' → P (.int n) S') : wp (m__law_whole [.loc t] S) P R := by
  unfold m__law_whole
  rw [callS_wp]
  simp [startE]
  refine draw_wp T (by omega) (by decide) (by decide) ?_
  intro n S1 h0 h1 T1 K1
  simp
  constructor
  · intro _
    refine great_wp T1 (by omega) ?_
    intro n2 S2 T2 K2
    simp
    refine draw_wp T2 (by omega) (by decide) (by decide) ?_
    intro n3 S3 _ _ T3 K3
    simp
    refine draw_wp T3 (by omega) (by decide) (by decide) ?_
    intro n4 S4 _ _ T4 K4
    simp
    refine ⟨by omega, h _ _ (T4.up (by omega)) (((K1.trans K2).trans K3).trans K4)⟩
  · intro _
    have T1' : Tray t g (B + 1) (S1 ++ [Ob.lst [PV.int 0, PV.int 1, PV.int 5, PV.int 99, PV.int 100, PV.int (-1), PV.int (-7), PV.int 12]]) := T1.keep (M := []) .app (by simp) (by simp)
    refine draw_wp T1' (by omega) (by decide) (by decide) ?_
    intro n2 S2 h0 h1 T2 K2
    have e := K2.get (app_new (S := S1) (o := .lst [PV.int 0, PV.int 1, PV.int 5, PV.int 99, PV.int 100, PV.int (-1), PV.int (-7), PV.int 12])) (by have := T1.lt; simp; omega)
    simp [e]
    obtain ⟨x, hx, _, hm⟩ := atI_nat (xs := [PV.int 0, PV.int 1, PV.int 5, PV.int 99, PV.int 100, PV.int (-1), PV.int (-7), PV.int 12]) (i := n2) h0 (by simpa using h1)
    rw [hx]
    simp
    have : ∃ n, x = PV.int n := by
      simp at hm
      rcases hm with rfl | rfl | rfl | rfl | rfl | rfl | rfl | rfl <;> exact ⟨_, rfl⟩
    obtain ⟨n, rfl⟩ := this
    exact h _ _ (T2.up (by omega)) ((K1.trans .app).trans K2)
end K02
namespace K02
open PySem PySem.Spec PyProof.Rows L2 PL
def bars : List Str := ["", "main", "def", "end", "read", "clean", "call", "send", "give", "if", "else"]
def wordsN : List Str := ["set", "copy", "add", "num", "not", "same", "sends", "next", "ends", "mains", "calls", "none"]
theorem wordsN_ok : ∀ x ∈ wordsN, Lw x ∧ x.length ≤ 8 := by
  simp only [wordsN, List.forall_mem_cons, Lw]
  decide +kernel
theorem names_plain {us : List Str} (h : ∀ u ∈ us, Nm u) (n : Nat) : PlL n (us.map PV.str) := PlL_iff.mpr fun x hx => by
  obtain ⟨u, hu, rfl⟩ := List.mem_map.mp hx
  exact (h u hu).l.plain n
def one (c : Nat) : Str := ⟨#[c]⟩
/-- what a name is taken from -/
def abcS : List Str := (List.range' 97 26).map one
theorem name_wp {t g B u : Nat} {S : Sto} {us : List Str} (T : Tray t g B S) (hB : B < 10000000000000000) (hu : S[u]? = some (.lst (us.map PV.str))) (hut : u ≠ t) (hug : u ≠ g) (hn : ∀ x ∈ us, Nm x) (hl : us.length ≤ 10) {P : PV → Sto → Prop} {R : Str → PV → Sto → Prop}
    (h : ∀ (x : Str) S', Nm x → x ∉ us → x ∉ bars → Tray t g (B + 15) S' → Keep [t, g] S S' → P (.str x) S') : wp (m__law_name [.loc t, .loc u] S) P R := by
  unfold m__law_name
  rw [callS_wp]
  simp [startE]
  refine draw_wp T (by omega) (by decide) (by decide) ?_
  intro lot S1 l0 l1 T1 K1
  simp
  refine draw_wp T1 (by omega) (by decide) (by decide) ?_
  intro n2 S2 h0 h1 T2 K2
  obtain ⟨c, hc, hL⟩ := abc_at h0 (by simpa using h1)
  have len26 := abc_len
  simp [hc, len26]
  refine draw_wp T2 (by omega) (by decide) (by decide) ?_
  intro n3 S3 h0 h1 T3 K3
  simp
  refine ⟨by unfold rngOk; omega, ?_⟩
  have K03 : Keep [t, g] S S3 := (K1.trans K2).trans K3
  refine acc_wp (fun dn rs acc S' => ∃ cs : List Nat, acc = cs.map (fun c => PV.str (one c)) ∧ cs.length = dn.length ∧ (∀ c ∈ cs, Lt c) ∧ Tray t g (B + 3 + dn.length) S' ∧ Keep [t, g] S S') ⟨[], rfl, rfl, by simp, T3, K03⟩ ?_ ?_
  · rintro dn p rs acc S4 J e ⟨cs, rfl, hcs, hLt, T4, K4⟩ hJ
    have hd : dn.length < 8 := by
      have := congrArg List.length e
      simp [rngI] at this; omega
    simp [wipeE, stepE_wp]
    refine draw_wp T4 (by omega) (by decide) (by decide) ?_
    intro n5 S5 h0 h1 T5 K5
    obtain ⟨c, hc, hL⟩ := abc_at h0 (by simpa using h1)
    simp [hc, len26]
    refine ⟨by omega, hJ _ _ ⟨cs ++ [c], by simp [one], by simp [hcs], ?_, by simpa [Nat.add_assoc] using T5, K4.trans K5⟩⟩
    intro d hd
    rcases List.mem_append.mp hd with q | q
    · exact hLt d q
    · simp at q; subst q; exact hL
  · rintro acc S4 ⟨cs, rfl, hcs, hLt, T4, K4⟩
    have hd : cs.length ≤ 8 := by
      rw [hcs]; simp [rngI]; omega
    have eI : itemsP (.loc S4.length) (S4 ++ [Ob.lst (cs.map fun c => PV.str (one c))]) = some ((cs.map one).map PV.str) := by simp
    have e2 : (Str.ofString "").length = 0 := by decide +kernel
    have e3 : (List.map ((fun x => x.length) ∘ one) cs).sum ≤ 16777216 := by
      have : ∀ l : List Nat, (List.map ((fun x => x.length) ∘ one) l).sum = l.length := by
        intro l
        induction l with
        | nil => rfl
        | cons a l ih => simp [one, Str.length] at ih ⊢; omega
      rw [this]; omega
    simp [eI, strsP_comp', e2, e3, -e_seqS]
    have T5 : Tray t g (B + 11) (S4 ++ [Ob.lst (cs.map fun c => PV.str (one c))]) := (T4.up (by have : (rngI 0 (1 + n3)).length ≤ 8 := by { rw [← hcs]; exact hd }; omega)).keep (M := []) .app (by simp) (by simp)
    have K5 : Keep [t, g] S (S4 ++ [Ob.lst (cs.map fun c => PV.str (one c))]) := K4.trans .app
    generalize S4 ++ [Ob.lst (cs.map fun c => PV.str (one c))] = S5 at *
    obtain ⟨nm, hnm⟩ : ∃ x : Str, Txt.join (Str.ofString "") (cs.map one) = x := ⟨_, rfl⟩
    have hw : Lw nm ∧ nm.length ≤ 8 := by
      have : ch nm = cs := by
        rw [← hnm, empty_str, ch_join0, List.map_map]
        have : ∀ l : List Nat, (l.map (ch ∘ one)).flatten = l := by
          intro l
          induction l with
          | nil => rfl
          | cons a l ih => simp [one, ch] at ih ⊢; exact ih
        exact this cs
      exact ⟨fun c hc => hLt c (by rw [← this]; exact hc), by rw [← ch_len, this]; exact hd⟩
    rw [hnm, e_seqS, e_seqO]
    refine wpS_mid (fun τ' S' => ∃ (x : Str) (a b d : Option PV), τ' = [some (.loc t), some (.loc u), some (.str "abcdefghijklmnopqrstuvwxyz"), some (.int lot), some (.str ⟨#[c]⟩), some (.str x), none, none, a, b, d, none, none] ∧ Lw x ∧ x.length ≤ 8 ∧ Tray t g (B + 14) S' ∧ Keep [t, g] S S') ?_ ?_
    · intro J hJ
      simp
      constructor
      · intro _
        have T6 : Tray t g (B + 11) (S5 ++ [Ob.lst (wordsN.map PV.str)]) := T5.keep (M := []) .app (by simp) (by simp)
        refine draw_wp T6 (by omega) (by decide) (by decide) ?_
        intro n6 S6 h0 h1 T6 K6
        have e := K6.get (app_new (S := S5) (o := .lst (wordsN.map PV.str))) (by have := T5.lt; simp; omega)
        obtain ⟨x, hx, _, hm⟩ := atI_nat (xs := wordsN.map PV.str) (i := n6) h0 (by simpa [wordsN] using h1)
        obtain ⟨w, hw, rfl⟩ := List.mem_map.mp hm
        simp [e, hx]
        exact hJ _ _ ⟨w, _, _, _, rfl, (wordsN_ok w hw).1, (wordsN_ok w hw).2, T6.up (by omega), (K5.trans .app).trans K6⟩
      · intro hl4
        constructor
        · intro hlp
          have hu5 := K5.get hu (by simp [hut, hug])
          have hu6 : (S5 ++ [Ob.lst []])[u]? = some (.lst (us.map PV.str)) := by rw [List.getElem?_append_left (lt_of_get hu5)]; exact hu5
          obtain ⟨bb, he, hbb⟩ := eqB_lists (n := 0) (by decide) hu6 (app_new (S := S5) (o := .lst [])) (names_plain hn 0) (by simp [PlL])
          have T6 : Tray t g (B + 11) (S5 ++ [Ob.lst []]) := T5.keep (M := []) .app (by simp) (by simp)
          have K6 : Keep [t, g] S (S5 ++ [Ob.lst []]) := K5.trans .app
          simp [he]
          generalize S5 ++ [Ob.lst []] = S6 at *
          constructor
          · intro hb
            simp [hu6]
            have hpos : 0 < us.length := by
              cases us with
              | nil => have : bb = true := hbb.mpr rfl; simp [this] at hb
              | cons a l => simp
            refine draw_wp T6 (by omega) (by omega) (by omega) ?_
            intro n7 S7 h0 h1 T7 K7
            have hu7 := K7.get hu6 (by simp [hut, hug])
            obtain ⟨x, hx, _, hm⟩ := atI_nat (xs := us.map PV.str) (i := n7) h0 (by simpa using h1)
            obtain ⟨w, hw, rfl⟩ := List.mem_map.mp hm
            have ho := hn w hw
            have hq := ho.q
            simp [hu7, hx]
            refine ⟨by omega, ?_⟩
            refine draw_wp T7 (by omega) (by omega) (by omega) ?_
            intro n8 S8 h0 h1 T8 K8
            have c1 : (cutS w none (some n8)).length ≤ 8 := Nat.le_trans (cut_le _ _ _) hq
            have c2 : ∀ k, (cutS w (some k) none).length ≤ 8 := fun k => Nat.le_trans (cut_le _ _ _) hq
            have c3 := c2 n8
            have c4 := c2 (n8 + 1)
            have T9 : ∀ o o', Tray t g (B + 14) (S8 ++ [o] ++ [o']) := fun o o' => ((T8.up (by omega)).keep (M := []) .app (by simp) (by simp)).keep (M := []) .app (by simp) (by simp)
            have K9 : ∀ o o', Keep [t, g] S (S8 ++ [o] ++ [o']) := fun o o' => (((K6.trans K7).trans K8).trans .app).trans .app
            have lE : (Str.ofString "").length = 0 := by decide +kernel
            have l1 : Str.length { cps := #[c] } = 1 := rfl
            have w1 : Lw { cps := #[c] } := .one hL
            have wE : Lw (Str.ofString "") := by rw [empty_str]; exact .nil
            have dn : ∀ y z v : Str, Lw y → Lw z → Lw v → Lw (cutS (y ++ z ++ v) none (some 8)) := fun y z v a b c => ((a.app b).app c).cut _ _
            obtain rfl | rfl | rfl : lot = 1 ∨ lot = 2 ∨ lot = 3 := by omega
            all_goals
              simp [len_app, lE, l1]
              refine ⟨by omega, by omega, by omega, by omega, hJ _ _ ⟨_, _, _, _, rfl, dn _ _ _ (ho.l.cut _ _) ?_ (ho.l.cut _ _), cut_8 _, ?_, ?_⟩⟩
              · first | exact w1 | exact wE
              · simpa using T9 _ _
              · simpa using K9 _ _
          · intro hb
            exact hJ _ _ ⟨_, _, _, _, rfl, hw.1, hw.2, T6.up (by omega), K6⟩
        · intro hlp
          exact hJ _ _ ⟨_, _, _, _, rfl, hw.1, hw.2, T5.up (by omega), K5⟩
    · rintro τ' S6 ⟨x, a, b, d, rfl, hwx, hlx, T6, K6⟩
      have hL26 : ∀ c ∈ (Str.ofString "abcdefghijklmnopqrstuvwxyz").cps.toList, Lt c := fun c hc => abc_mem.mp hc
      have hsz : (Str.ofString "abcdefghijklmnopqrstuvwxyz").cps.toList.length = 26 := by rw [show (Str.ofString "abcdefghijklmnopqrstuvwxyz").cps.toList = ch (Str.ofString "abcdefghijklmnopqrstuvwxyz") from rfl, ch_len]; exact abc_len
      simp [-e_newK, -addP_loc, -e_lstO]
      refine lst_wp (by simp) ?_
      intro n1 S7 e1 k1 _
      simp [-e_newK, -addP_loc, -e_lstO]
      refine acc_map (fun c => PV.str ⟨#[c]⟩) (fun c => PV.str (one c)) (by simp) (by rw [hsz]; decide) (fun c hc acc J hl hJ => ⟨_, rfl, by simp [wipeE, stepE_wp, hl]; exact hJ⟩) ?_
      refine new_wp ?_
      intro n2 S8 e2 k2 _
      simp [-e_newK, -addP_loc, -e_lstO]
      refine addL_wp (k2.get e1 (by simp)) e2 (by simp only [List.length_append, List.length_map, List.length_cons, List.length_nil, hsz]; decide) ?_
      intro n3 S9 e3 k3 _
      simp [-e_newK, -addP_loc, -e_lstO]
      refine acc_map (fun c => PV.str ⟨#[c]⟩) (fun c => PV.str (Txt.mul (one c) 3)) (by simp) (by rw [hsz]; decide) (fun c hc acc J hl hJ => ⟨_, rfl, by simp [wipeE, stepE_wp, hl, Str.length]; exact hJ⟩) ?_
      refine new_wp ?_
      intro n4 S10 e4 k4 _
      simp [-e_newK, -addP_loc, -e_lstO]
      refine addL_wp (k4.get e3 (by simp)) e4 (by simp only [List.length_append, List.length_map, List.length_cons, List.length_nil, hsz]; decide) ?_
      intro n5 S11 e5 k5 _
      simp [-e_newK, -addP_loc, -e_lstO]
      refine acc_map (fun c => PV.str ⟨#[c]⟩) (fun c => PV.str (Txt.mul (one c) 5)) (by simp) (by rw [hsz]; decide) (fun c hc acc J hl hJ => ⟨_, rfl, by simp [wipeE, stepE_wp, hl, Str.length]; exact hJ⟩) ?_
      refine new_wp ?_
      intro n6 S12 e6 k6 _
      simp [-e_newK, -addP_loc, -e_lstO]
      refine addL_wp (k6.get e5 (by simp)) e6 (by simp only [List.length_append, List.length_map, List.length_cons, List.length_nil, hsz]; decide) ?_
      intro n7 S13 e7 k7 _
      simp [-e_newK, -addP_loc, -e_lstO]
      refine lst_wp (by simp) ?_
      intro n8 S14 e8 k8 _
      generalize hcps : (Str.ofString "abcdefghijklmnopqrstuvwxyz").cps.toList = cps at *
      obtain ⟨sm, hsm⟩ : ∃ sm : List Str, sm = [x] ++ cps.map one ++ cps.map (fun c => Txt.mul (one c) 3) ++ cps.map (fun c => Txt.mul (one c) 5) := ⟨_, rfl⟩
      have e7' : S14[n7]? = some (.lst (sm.map PV.str)) := by
        refine (k8.get e7 (by simp)).trans ?_
        rw [hsm]
        simp [List.map_map, Function.comp_def]
      have e8' : S14[n8]? = some (.lst (bars.map PV.str)) := e8
      have K14 : Keep [t, g] S S14 := by
        refine K6.trans ?_
        exact (((((((k1.trans k2).trans k3).trans k4).trans k5).trans k6).trans k7).trans k8).mono (by simp)
      have K614 : Keep [] S6 S14 := (((((((k1.trans k2).trans k3).trans k4).trans k5).trans k6).trans k7).trans k8)
      have T14 : Tray t g (B + 14) S14 := T6.keep K614 (by simp) (by simp)
      have hu14 : S14[u]? = some (.lst (us.map PV.str)) := K14.get hu (by simp [hut, hug])
      simp [-e_newK, -addP_loc, -e_lstO, e7']
      have hlen : sm.length = 79 := by rw [hsm]; simp [hsz]
      refine acc_wp (fun dn rs acc S' => ∃ ds : List Str, dn = ds.map PV.str ∧ acc = (ds.filter fun y => decide (y ∉ us ++ bars)).map PV.str ∧ Keep [] S14 S') ⟨[], rfl, rfl, .refl⟩ ?_ ?_
      · rintro dn p rs acc S15 J e ⟨ds, rfl, rfl, k15⟩ hJ
        obtain ⟨y, rfl, hy⟩ := map_split e
        refine ⟨by simp; exact k15.get e7' (by simp), _, rfl, ?_⟩
        simp [wipeE, stepE_wp, -e_newK, -addP_loc, -e_lstO]
        have hds : ds.length < 79 := by
          have := congrArg List.length e
          simp [hlen] at this; omega
        refine addL_wp (k15.get hu14 (by simp)) (k15.get e8' (by simp)) (by simp [bars]; omega) ?_
        intro n9 S16 e9 k16 _
        have e9' : S16[n9]? = some (.lst ((us ++ bars).map PV.str)) := by rw [e9]; simp
        have hin := inB_strs (x := y) e9'
        simp [hin, -List.mem_append]
        have hfl : (ds.filter fun y => decide (y ∉ us ++ bars)).length ≤ ds.length := List.length_filter_le _ _
        by_cases hm : y ∈ us ++ bars
        · simp only [hm, not_true_eq_false, false_implies, not_false_eq_true, true_implies, true_and, and_true, decide_true, decide_false]
          refine hJ _ _ ⟨ds ++ [y], by simp, ?_, k15.trans k16⟩
          rw [List.filter_append]
          simp only [List.filter_cons, List.filter_nil, hm, not_true_eq_false, decide_false]
          simp
        · simp only [hm, not_true_eq_false, false_implies, not_false_eq_true, true_implies, true_and, and_true, decide_true, decide_false]
          refine ⟨Nat.lt_of_le_of_lt (List.length_filter_le _ _) (Nat.lt_trans hds (by decide)), hJ _ _ ⟨ds ++ [y], by simp, ?_, k15.trans k16⟩⟩
          rw [List.filter_append]
          simp only [List.filter_cons, List.filter_nil, hm, not_false_eq_true, decide_true]
          simp
      · rintro acc S15 ⟨ds, hds, rfl, k15⟩
        have : ds = sm := by
          have := congrArg (fun l => strsP l) hds
          simp only [strsP_map] at this
          exact (Option.some.inj this).symm
        subst this
        refine ⟨by simp; exact k15.get e7' (by simp), ?_⟩
        refine new_wp ?_
        intro n9 S16 e9 k16 _
        have hex : ∃ y ∈ ds, y ∉ us ++ bars := by
          obtain ⟨y, hy, hyu⟩ := some_out (xs := abcS) (us := us) (by decide +kernel) (by simp [abcS]; omega)
          have hyb : y ∉ bars := (by decide +kernel : ∀ y ∈ abcS, y ∉ bars) y hy
          refine ⟨y, ?_, by simp [hyu, hyb]⟩
          obtain ⟨c, hc, rfl⟩ := List.mem_map.mp hy
          have : c ∈ cps := by rw [← hcps]; show c ∈ ch _; rw [abc_ch]; exact hc
          rw [hsm]
          simp only [List.mem_append, List.mem_map]
          exact .inl (.inl (.inr ⟨c, this, rfl⟩))
        obtain ⟨y, hy, hyn⟩ := hex
        have hmem : y ∈ ds.filter fun y => decide (y ∉ us ++ bars) := List.mem_filter.mpr ⟨hy, by simpa using hyn⟩
        cases hf : ds.filter (fun y => decide (y ∉ us ++ bars)) with
        | nil => rw [hf] at hmem; simp at hmem
        | cons w r =>
          have hw : w ∈ ds.filter fun y => decide (y ∉ us ++ bars) := by rw [hf]; simp
          obtain ⟨hw1, hw2⟩ := List.mem_filter.mp hw
          have hw2 : w ∉ us ++ bars := by simpa using hw2
          rw [hf] at e9
          simp [e9]
          have hwn : Lw w ∧ w.length ≤ 8 := by
            rw [hsm] at hw1
            simp only [List.mem_append, List.mem_map, List.mem_singleton] at hw1
            have rep : ∀ (c k : Nat), Lt c → k ≤ 8 → Lw (Txt.mul (one c) (k : Int)) ∧ (Txt.mul (one c) (k : Int)).length ≤ 8 := fun c k hc hk => by
              have e : ch (Txt.mul (one c) (k : Int)) = List.replicate k c := by rw [one, ch_mul1]; simp
              refine ⟨fun d hd => ?_, ?_⟩
              · rw [e] at hd
                rw [(List.mem_replicate.mp hd).2]; exact hc
              · rw [← ch_len, e]; simpa using hk
            rcases hw1 with ((rfl | ⟨c, hc, rfl⟩) | ⟨c, hc, rfl⟩) | ⟨c, hc, rfl⟩
            · exact ⟨hwx, hlx⟩
            · exact ⟨.one (hL26 c hc), by simp [one, Str.length]⟩
            · exact rep c 3 (hL26 c hc) (by decide)
            · exact rep c 5 (hL26 c hc) (by decide)
          have hne : 1 ≤ w.length := by
            rcases Nat.eq_zero_or_pos w.length with z | z
            · exfalso
              apply hw2
              have : w = Str.ofString "" := by
                rw [empty_str]
                apply ch_ext
                have : (ch w).length = 0 := by rw [ch_len]; exact z
                simpa [ch] using this
              rw [this]
              simp [bars]
            · exact z
          refine h w S16 ⟨hwn.1, hne, hwn.2⟩ (fun z => hw2 (List.mem_append_left _ z)) (fun z => hw2 (List.mem_append_right _ z)) ?_ ?_
          · exact (T14.keep (k15.trans k16) (by simp) (by simp)).up (by omega)
          · exact K14.trans ((k15.trans k16).mono (by simp))
end K02
namespace K02
open PySem PySem.Spec PyProof.Rows L2 PL
theorem names_wp {t g B e : Nat} {S : Sto} {m : Int} (T : Tray t g B S) (hB : B < 1000000000000000) (he : S[e]? = some (.lst [])) (het : e ≠ t) (heg : e ≠ g) (hm0 : 0 ≤ m) (hm : m ≤ 6) {P : PV → Sto → Prop} {R : Str → PV → Sto → Prop}
    (h : ∀ (n : Nat) (xs : List Str) S', S'[n]? = some (.lst (xs.map PV.str)) → S.length ≤ n → (xs.length : Int) = m → xs.Nodup → (∀ x ∈ xs, Nm x) → (∀ x ∈ xs, x ∉ bars) → Tray t g (B + 90) S' → Keep [t, g] S S' → P (.loc n) S') : wp (m__law_names [.loc t, .int m, .loc e] S) P R := by
  unfold m__law_names
  rw [callS_wp]
  simp [startE, -e_newK, -addP_loc, -e_lstO]
  refine lst_wp (by simp) ?_
  intro n S1 e1 k1 hn
  have T1 := T.keep k1 (by simp) (by simp)
  simp [-e_newK, -addP_loc, -e_lstO]
  have ltT := T.lt
  have ltE := lt_of_get he
  refine ⟨by unfold rngOk; omega, ?_⟩
  refine for_wp (fun dn rs τ S' => ∃ (xs : List Str) (x : Option PV), τ = [some (.loc t), some (.int m), some (.loc e), some (.loc n), x] ∧ S'[n]? = some (.lst (xs.map PV.str)) ∧ xs.length = dn.length ∧ xs.Nodup ∧ (∀ x ∈ xs, Nm x) ∧ (∀ x ∈ xs, x ∉ bars) ∧ Tray t g (B + 15 * dn.length) S' ∧ Keep [t, g, n] S1 S')
    ⟨[], none, rfl, e1, rfl, List.nodup_nil, by simp, by simp, T1, .refl⟩ ?_ ?_
  · rintro dn p rs τ S2 J eq ⟨xs, x, rfl, e2, hl, nd, hN, hb, T2, k2⟩ hJ
    have hd : dn.length < 6 := by
      have := congrArg List.length eq
      simp [rngI] at this; omega
    have e2' : S2[e]? = some (.lst []) := k2.get (k1.get he (by simp)) (by simp [het, heg]; omega)
    simp [e2, -e_newK, -addP_loc, -e_lstO]
    refine addL_wp e2' e2 (by simp; omega) ?_
    intro u S3 e3 k3 hu
    have T3 := T2.keep k3 (by simp) (by simp)
    have ltT3 := T2.lt
    have ltn := lt_of_get e2
    refine name_wp (us := xs) T3 (by omega) (by simpa using e3) (by omega) (by omega) hN (by omega) ?_
    intro x S4 hx hx1 hx2 T4 k4
    have e4 : S4[n]? = some (.lst (xs.map PV.str)) := k4.get (k3.get e2 (by simp)) (by simp; omega)
    simp [e4]
    refine ⟨by omega, hJ _ _ ⟨xs ++ [x], _, rfl, ?_, by simp [hl], ?_, ?_, ?_, ?_, ?_⟩⟩
    · rw [set_get e4]; simp
    · refine List.nodup_append.mpr ⟨nd, by simp, fun a ha b hb z => ?_⟩
      simp at hb; subst hb; subst z; exact hx1 ha
    · intro y hy
      rcases List.mem_append.mp hy with q | q
      · exact hN y q
      · simp at q; subst q; exact hx
    · intro y hy
      rcases List.mem_append.mp hy with q | q
      · exact hb y q
      · simp at q; subst q; exact hx2
    · have : Tray t g (B + 15 * (dn.length + 1)) S4 := T4.up (by omega)
      simpa using this.keep (M := [n]) (.set (by simp)) (by simp; omega) (by simp; omega)
    · exact ((k2.trans (k3.mono (by simp))).trans (k4.mono fun x hx _ => by simp at hx ⊢; omega)).trans (.set (by simp))
  · rintro τ S2 ⟨xs, x, rfl, e2, hl, nd, hN, hb, T2, k2⟩
    have hlm : (rngI 0 m).length = m.toNat := by simp [rngI]
    simp
    refine h n xs S2 e2 hn (by rw [hl, hlm]; omega) nd hN hb (T2.up (by rw [hlm]; omega)) ?_
    exact ((k1.mono (by simp)).trans k2).mono fun x hx hlt => by simp at hx ⊢; omega
structure Gen (t g ow he le : Nat) (ns : List Str) (hs : List Hd) (S : Sto) : Prop where
  o : S[ow]? = some (.lst (ns.map PV.str))
  h : S[he]? = some (.lst (hs.map Hd.pv))
  ot : ow ≠ t
  og : ow ≠ g
  ol : ow ≠ le
  ht : he ≠ t
  hg : he ≠ g
  hl : he ≠ le
  lt : le ≠ t
  lg : le ≠ g
  n0 : 0 < ns.length
  n1 : ns.length ≤ 100
  h0 : 0 < hs.length
  h1 : hs.length ≤ 100
  hp : ∀ x ∈ hs, x.2.length ≤ 4
theorem Gen.keep {t g ow he le : Nat} {ns : List Str} {hs : List Hd} {S S' : Sto} {M : List Nat} (G : Gen t g ow he le ns hs S) (k : Keep M S S') (h1 : ow ∉ M) (h2 : he ∉ M) : Gen t g ow he le ns hs S' :=
  ⟨k.get G.o h1, k.get G.h h2, G.ot, G.og, G.ol, G.ht, G.hg, G.hl, G.lt, G.lg, G.n0, G.n1, G.h0, G.h1, G.hp⟩
theorem pick {t g B l : Nat} {S : Sto} {α : Type} {f : α → PV} {xs : List α} (T : Tray t g B S) (hB : B < 1000000000000000) (e : S[l]? = some (.lst (xs.map f))) (h0 : 0 < xs.length) (h1 : xs.length ≤ 100) (ht : l ≠ t) (hg : l ≠ g) {P : PV → Sto → Prop} {R : Str → PV → Sto → Prop}
    (h : ∀ (i : Int) x S', x ∈ xs → Tray t g (B + 1) S' → Keep [t, g] S S' → S'[l]? = some (.lst (xs.map f)) → atI (xs.map f) i = some (f x) → P (.int i) S') : wp (m__law_draw [.loc t, .int (xs.length : Int)] S) P R := by
  refine draw_wp T (by omega) (by omega) (by omega) ?_
  intro i S' i0 i1 T' k
  obtain ⟨x, hx, _, hm⟩ := atI_nat (xs := xs.map f) (i := i) i0 (by simpa using i1)
  obtain ⟨y, hy, rfl⟩ := List.mem_map.mp hm
  exact h i y S' hy T' k (k.get e (by simp [ht, hg])) hx
theorem value_wp {t g B ow he le : Nat} {ns : List Str} {hs : List Hd} {S : Sto} (T : Tray t g B S) (hB : B < 100000000000000) (G : Gen t g ow he le ns hs S) {P : PV → Sto → Prop} {R : Str → PV → Sto → Prop}
    (h : ∀ (v : Vl) S', v.ok ns hs → Tray t g (B + 20) S' → Keep [t, g] S S' → P v.pv S') : wp (m__law_value [.loc t, .loc ow, .loc he] S) P R := by
  unfold m__law_value
  rw [callS_wp]
  simp [startE, -e_newK, -addP_loc, -e_lstO]
  refine draw_wp T (by omega) (by decide) (by decide) ?_
  intro lot S1 l0 l1 T1 k1
  simp [rngOk, -e_newK, -addP_loc, -e_lstO]
  have G1 := G.keep k1 (by simp [G.ot, G.og]) (by simp [G.ht, G.hg])
  refine acc_wp (fun dn rs acc S' => ∃ xs : List Str, acc = xs.map PV.str ∧ xs.length = dn.length ∧ (∀ x ∈ xs, x ∈ ns) ∧ Tray t g (B + 1 + dn.length) S' ∧ Keep [t, g] S S') ⟨[], rfl, rfl, by simp, T1, k1⟩ ?_ ?_
  · rintro dn p rs acc S2 J e ⟨xs, rfl, hl, hx, T2, k2⟩ hJ
    have hd : dn.length < 4 := by
      have := congrArg List.length e
      simp [rngI] at this; omega
    have G2 := G.keep k2 (by simp [G.ot, G.og]) (by simp [G.ht, G.hg])
    simp [wipeE, stepE_wp, G2.o, -e_newK, -addP_loc, -e_lstO]
    refine pick T2 (by omega) G2.o G.n0 G.n1 G.ot G.og ?_
    intro i y S3 hy T3 k3 e3 at3
    simp [e3, at3]
    refine ⟨by omega, hJ _ _ ⟨xs ++ [y], by simp, by simp [hl], ?_, by simpa [Nat.add_assoc] using T3, k2.trans k3⟩⟩
    intro z hz
    rcases List.mem_append.mp hz with q | q
    · exact hx z q
    · simp at q; subst q; exact hy
  · rintro acc S2 ⟨xs, rfl, hl, hx, T2, k2⟩
    have hl4 : xs.length = 4 := by rw [hl]; simp [rngI]
    have T2 : Tray t g (B + 5) S2 := T2.up (by rw [← hl, hl4]; omega)
    refine ⟨by simp, new_wp ?_⟩
    intro n S3 e3 k3 _
    have T3 := T2.keep k3 (by simp) (by simp)
    have k3' : Keep [t, g] S S3 := k2.trans (k3.mono (by simp))
    have G3 := G.keep k3' (by simp [G.ot, G.og]) (by simp [G.ht, G.hg])
    have ltT := T2.lt
    obtain ⟨x0, x1, x2, x3, rfl⟩ : ∃ a b c d, xs = [a, b, c, d] := by
      match xs, hl4 with
      | [a, b, c, d], _ => exact ⟨a, b, c, d, rfl⟩
    simp at hx
    simp [-e_newK, -addP_loc, -e_lstO, -slP_loc, G3.h]
    constructor
    · intro hlot
      refine pick T3 (by omega) G3.h G.h0 G.h1 G.ht G.hg ?_
      intro i hd S4 hhd T4 k4 e4 at4
      have e3' := k4.get e3 (by simp; omega)
      simp [e4, at4, -e_newK, -addP_loc, -e_lstO, -slP_loc, Hd.pv, stL]
      refine slL_wp e3' ?_
      intro n5 S5 e5 k5 _
      simp [e5]
      have := h (.call hd.1 ([x0, x1, x2, x3].take hd.2.length)) S5 ⟨fun y hy => ?_, hd.2, hhd, ?_⟩ ((T4.keep k5 (by simp) (by simp)).up (by omega)) ((k3'.trans k4).trans (k5.mono (by simp)))
      · have ec : cutP [PV.str x0, PV.str x1, PV.str x2, PV.str x3] none (some (hd.2.length : Int)) = ([x0, x1, x2, x3].take hd.2.length).map PV.str := by rw [cut_take, List.map_take]; rfl
        rw [ec]
        exact this
      · have := List.mem_of_mem_take hy
        simp at this
        rcases this with rfl | rfl | rfl | rfl
        · exact hx.1
        · exact hx.2.1
        · exact hx.2.2.1
        · exact hx.2.2.2
      · have := G.hp hd hhd
        simp; omega
    · intro hlot
      refine whole_wp T3 (by omega) ?_
      intro num S4 T4 k4
      have e4 := k4.get e3 (by simp; omega)
      simp [e4, -e_newK, -addP_loc, -e_lstO, -slP_loc]
      refine lst_wp (by simp) ?_
      intro n5 S5 e5 k5 _
      simp [-e_newK, -addP_loc, -e_lstO, -slP_loc]
      refine lst_wp (by simp) ?_
      intro n6 S6 e6 k6 _
      simp [-e_newK, -addP_loc, -e_lstO, -slP_loc]
      refine addL_wp (k6.get e5 (by simp)) e6 (by simp) ?_
      intro n7 S7 e7 k7 _
      have T7 := (((T4.keep k5 (by simp) (by simp)).keep k6 (by simp) (by simp)).keep k7 (by simp) (by simp)).up (B' := B + 20) (by omega)
      have k57 : Keep [] S4 S7 := (k5.trans k6).trans k7
      have k7' : Keep [t, g] S S7 := (k3'.trans k4).trans (k57.mono (by simp))
      simp [e7]
      obtain rfl | rfl | rfl | rfl | rfl | rfl : lot = 0 ∨ lot = 1 ∨ lot = 2 ∨ lot = 3 ∨ lot = 4 ∨ lot = 5 := by omega
      · simp; exact h (.num num) S7 trivial T7 k7'
      · simp; exact h (.copy x0) S7 hx.1 T7 k7'
      · simp; exact h (.add x0 x1) S7 ⟨hx.1, hx.2.1⟩ T7 k7'
      · simp; exact h .read S7 trivial T7 k7'
      · simp [atI, ixN]; exact h (.clean x0) S7 hx.1 T7 k7'
      · simp [atI, ixN]; exact h .read S7 trivial T7 k7'
end K02
namespace K02
open PySem PySem.Spec PyProof.Rows L2 PL
theorem gen_wp {t g ow he le : Nat} {ns : List Str} {hs : List Hd} : ∀ d : Nat,
    (∀ (δ : Nat) (B : Nat) (l : Int) (S : Sto) (P : PV → Sto → Prop) (R : Str → PV → Sto → Prop), 1 ≤ δ → 2 * δ ≤ d + 1 → Tray t g B S → B + 30 * l.toNat < 10000000000000 → Gen t g ow he le ns hs S → S[le]? = some (.lst [.int l]) → 0 < l →
      (∀ (r : Rw) S', r.ok ns hs → r.dep ≤ δ → (r.each.length : Int) ≤ l → Tray t g (B + 30 * r.each.length) S' → S'[le]? = some (.lst [.int (l - r.each.length)]) → Keep [t, g, le] S S' → P r.pv S') →
      wp (m__law_row d [.loc t, .loc ow, .loc he, .loc le, .int δ] S) P R) ∧
    (∀ (δ : Nat) (B : Nat) (l : Int) (S : Sto) (P : PV → Sto → Prop) (R : Str → PV → Sto → Prop), 1 ≤ δ → 2 * δ ≤ d → Tray t g B S → B + 1 + 30 * l.toNat < 10000000000000 → Gen t g ow he le ns hs S → S[le]? = some (.lst [.int l]) → 0 ≤ l →
      (∀ (rs : List Rw) S', Rw.oks ns hs rs → Rw.deps rs ≤ δ → ((Rw.eachs rs).length : Int) ≤ l → Tray t g (B + 1 + 30 * (Rw.eachs rs).length) S' → S'[le]? = some (.lst [.int (l - (Rw.eachs rs).length)]) → Keep [t, g, le] S S' → P (.tup (Rw.pvs rs)) S') →
      wp (m__law_rows d [.loc t, .loc ow, .loc he, .loc le, .int δ] S) P R)
  | 0 => ⟨fun δ B l S P R h1 h2 => by omega, fun δ B l S P R h1 h2 => by omega⟩
  | d + 1 => by
    obtain ⟨ihr, ihs⟩ := gen_wp (t := t) (g := g) (ow := ow) (he := he) (le := le) (ns := ns) (hs := hs) d
    constructor
    · intro δ B l S P R h1 h2 T hB G el hl h
      unfold m__law_row
      rw [callS_wp]
      simp [startE, el, set_get el, -e_newK, -addP_loc, -e_lstO]
      have T0 : Tray t g B (S.set le (.lst [.int (l - 1)])) := T.keep (M := [le]) (.set (by simp)) (by simp [Ne.symm G.lt]) (by simp [Ne.symm G.lg])
      have G0 := G.keep (M := [le]) (S' := S.set le (.lst [.int (l - 1)])) (.set (by simp)) (by simp [G.ol]) (by simp [G.hl])
      have el0 : (S.set le (.lst [.int (l - 1)]))[le]? = some (.lst [.int (l - 1)]) := set_get el
      have k0 : Keep [t, g, le] S (S.set le (.lst [.int (l - 1)])) := .set (by simp)
      generalize S.set le (.lst [.int (l - 1)]) = S0 at *
      refine draw_wp T0 (by omega) (by decide) (by decide) ?_
      intro lot S1 l0 l1 T1 k1
      have G1 := G0.keep k1 (by simp [G.ot, G.og]) (by simp [G.ht, G.hg])
      have el1 := k1.get el0 (by simp [G.lt, G.lg])
      simp [G1.o, -e_newK, -addP_loc, -e_lstO]
      refine pick T1 (by omega) G1.o G.n0 G.n1 G.ot G.og ?_
      intro i x S2 hx T2 k2 e2 at2
      have G2 := G1.keep k2 (by simp [G.ot, G.og]) (by simp [G.ht, G.hg])
      have el2 := k2.get el1 (by simp [G.lt, G.lg])
      have k02 : Keep [t, g, le] S S2 := k0.trans ((k1.trans k2).mono fun x hx _ => by simp at hx ⊢; omega)
      simp [e2, at2, -e_newK, -addP_loc, -e_lstO]
      have hset : ∀ (v : Vl) S3, v.ok ns hs → Tray t g (B + 1 + 1 + 20) S3 → Keep [t, g] S2 S3 → P (.tup [.str "set", .str x, v.pv]) S3 := by
        intro v S3 hv T3 k3
        refine h (.set x v) S3 ⟨hx, hv⟩ (by simp [Rw.dep] <;> omega) (by simp [Rw.each] <;> omega) (T3.up (by simp [Rw.each] <;> omega)) ?_ (k02.trans (k3.mono fun x hx _ => by simp at hx ⊢; omega))
        have := k3.get el2 (by simp [G.lt, G.lg])
        simpa [Rw.each] using this
      have hse : ∀ S3, Keep [] S2 S3 → P (.tup [.str "send", .str x]) S3 ∧ P (.tup [.str "give", .str x]) S3 := by
        intro S3 k3
        have T3 := T2.keep k3 (by simp) (by simp)
        have el3 := k3.get el2 (by simp)
        have k03 := k02.trans (k3.mono (M' := [t, g, le]) (by simp))
        constructor
        · exact h (.send x) S3 hx (by simp [Rw.dep] <;> omega) (by simp [Rw.each] <;> omega) (T3.up (by simp [Rw.each] <;> omega)) (by simpa [Rw.each] using el3) k03
        · exact h (.give x) S3 hx (by simp [Rw.dep] <;> omega) (by simp [Rw.each] <;> omega) (T3.up (by simp [Rw.each] <;> omega)) (by simpa [Rw.each] using el3) k03
      refine ⟨fun h6 => ⟨fun hd1 => ?_, fun _ => ⟨fun h5 => ?_, fun h5 => ?_⟩⟩, fun h6 => ⟨fun h5 => ?_, fun h5 => ?_⟩⟩
      · have hδ : ((δ : Int) - 1) = ((δ - 1 : Nat) : Int) := by omega
        rw [hδ]
        refine ihs (δ - 1) (B + 1 + 1) (l - 1) S2 _ _ (by omega) (by omega) T2 (by omega) G2 el2 (by omega) ?_
        intro rs1 S3 hr1 hd1' hc1 T3 el3 k3
        have G3 := G2.keep k3 (by simp [G.ot, G.og, G.ol]) (by simp [G.ht, G.hg, G.hl])
        simp [-e_newK, -addP_loc, -e_lstO]
        rw [hδ]
        refine ihs (δ - 1) _ _ S3 _ _ (by omega) (by omega) T3 (by omega) G3 el3 (by omega) ?_
        intro rs2 S4 hr2 hd2 hc2 T4 el4 k4
        simp [-e_newK, -addP_loc, -e_lstO]
        refine h (.iff x rs1 rs2) S4 ⟨hx, hr1, hr2⟩ (by simp [Rw.dep] <;> omega) (by simp [Rw.each] <;> omega) (T4.up (by simp [Rw.each] <;> omega)) ?_ ((k02.trans k3).trans k4)
        rw [el4]
        simp [Rw.each]
        omega
      · exfalso; omega
      · obtain rfl | rfl : lot = 7 ∨ lot = 8 := by omega
        all_goals
          refine lst_wp (by simp) ?_
          intro n S3 e3 k3 _
          simp [e3]
          first | exact (hse S3 k3).1 | exact (hse S3 k3).2
      · refine value_wp T2 (by omega) G2 ?_
        intro v S3 hv T3 k3
        simp
        exact hset v S3 hv T3 k3
      · obtain rfl | rfl : lot = 5 ∨ lot = 6 := by omega
        all_goals
          refine lst_wp (by simp) ?_
          intro n S3 e3 k3 _
          simp [e3]
          first | exact (hse S3 k3).1 | exact (hse S3 k3).2
    · intro δ B l S P R h1 h2 T hB G el hl h
      unfold m__law_rows
      rw [callS_wp]
      simp [startE, -e_newK, -addP_loc, -e_lstO]
      refine lst_wp (by simp) ?_
      intro n S1 e1 k1 hn
      have T1 := T.keep k1 (by simp) (by simp)
      have G1 := G.keep k1 (by simp) (by simp)
      have el1 := k1.get el (by simp)
      have ltT := T.lt
      have ltl := lt_of_get el
      have lto := lt_of_get G.o
      have lth := lt_of_get G.h
      simp [-e_newK, -addP_loc, -e_lstO]
      refine draw_wp T1 (by omega) (by decide) (by decide) ?_
      intro m S2 m0 m1 T2 k2
      have G2 := G1.keep k2 (by simp [G.ot, G.og]) (by simp [G.ht, G.hg])
      have el2 := k2.get el1 (by simp [G.lt, G.lg])
      have e2 := k2.get e1 (by simp; omega)
      simp [-e_newK, -addP_loc, -e_lstO]
      refine ⟨by unfold rngOk; omega, ?_⟩
      refine for_wp (fun dn rs τ S' => ∃ (ws : List Rw) (x : Option PV), τ = [some (.loc t), some (.loc ow), some (.loc he), some (.loc le), some (.int δ), some (.loc n), x] ∧ S'[n]? = some (.lst (Rw.pvs ws)) ∧ ws.length ≤ dn.length ∧ Rw.oks ns hs ws ∧ Rw.deps ws ≤ δ ∧ ((Rw.eachs ws).length : Int) ≤ l ∧ Tray t g (B + 1 + 30 * (Rw.eachs ws).length) S' ∧ S'[le]? = some (.lst [.int (l - (Rw.eachs ws).length)]) ∧ Keep [t, g, le, n] S1 S')
        ⟨[], none, rfl, e2, by simp, trivial, by simp [Rw.deps], by simpa [Rw.eachs] using hl, by simpa [Rw.eachs] using T2, by simpa [Rw.eachs] using el2, k2.mono fun x hx _ => by simp at hx ⊢; omega⟩ ?_ ?_
      · rintro dn p rs τ S3 J eq ⟨ws, x, rfl, e3, hl3, ok3, dep3, len3, T3, el3, k3⟩ hJ
        have hd : dn.length < 5 := by
          have := congrArg List.length eq
          simp [rngI] at this; omega
        simp [el3, -e_newK, -addP_loc, -e_lstO]
        constructor
        · intro hpos
          have G3 := G1.keep k3 (by simp [G.ot, G.og, G.ol]; omega) (by simp [G.ht, G.hg, G.hl]; omega)
          simp [e3, -e_newK, -addP_loc, -e_lstO]
          refine ihr δ (B + 1 + 30 * (Rw.eachs ws).length) (l - (Rw.eachs ws).length) S3 _ _ h1 (by omega) T3 (by omega) G3 el3 (by omega) ?_
          intro r S4 rok rdep rlen T4 el4 k4
          have e4 := k4.get e3 (by simp; omega)
          have hlen : (Rw.pvs ws).length = ws.length := by rw [pvs_map]; simp
          simp [e4, hlen]
          have ee : Rw.eachs (ws ++ [r]) = Rw.eachs ws ++ r.each := by rw [eachs_app]; simp [Rw.eachs]
          refine ⟨by omega, hJ _ _ ⟨ws ++ [r], _, rfl, ?_, by simp; omega, oks_app.mpr ⟨ok3, rok, trivial⟩, ?_, ?_, ?_, ?_, ?_⟩⟩
          · rw [set_get e4]; simp [pvs_map]
          · rw [deps_app]; simp [Rw.deps]; omega
          · rw [ee]; simp; omega
          · have : Tray t g (B + 1 + 30 * (Rw.eachs (ws ++ [r])).length) S4 := T4.up (by rw [ee]; simp; omega)
            exact this.keep (M := [n]) (.set (by simp)) (by simp; omega) (by simp; omega)
          · rw [List.getElem?_set_ne (by omega), el4, ee]
            simp; omega
          · exact (k3.trans (k4.mono fun x hx _ => by simp at hx ⊢; omega)).trans (.set (by simp))
        · intro hneg
          exact hJ _ _ ⟨ws, _, rfl, e3, by simp; omega, ok3, dep3, len3, T3, el3, k3⟩
      · rintro τ S3 ⟨ws, x, rfl, e3, hl3, ok3, dep3, len3, T3, el3, k3⟩
        simp [e3]
        exact h ws S3 ok3 dep3 len3 T3 el3 (((k1.mono (by simp)).trans k3).mono fun x hx hlt => by simp at hx ⊢; omega)
end K02
namespace K02
open PySem PySem.Spec PyProof.Rows L2 PL
theorem mem_ins {α : Type} {xs : List α} {x y : α} {i : Nat} : y ∈ xs.take i ++ [x] ++ xs.drop i ↔ y = x ∨ y ∈ xs := by
  have := List.take_append_drop i xs
  constructor
  · intro h
    simp only [List.mem_append, List.mem_singleton] at h
    rcases h with (h | h) | h
    · exact .inr (List.mem_of_mem_take h)
    · exact .inl h
    · exact .inr (List.mem_of_mem_drop h)
  · intro h
    simp only [List.mem_append, List.mem_singleton]
    rcases h with h | h
    · exact .inl (.inr h)
    · rw [← this] at h
      rcases List.mem_append.mp h with q | q
      · exact .inl (.inl q)
      · exact .inr q
theorem nodup_ins {α : Type} {xs : List α} {x : α} {i : Nat} (nd : xs.Nodup) (hx : x ∉ xs) : (xs.take i ++ [x] ++ xs.drop i).Nodup := by
  have p : (xs.take i ++ [x] ++ xs.drop i).Perm (x :: xs) := by
    have h1 : (xs.take i ++ [x] ++ xs.drop i).Perm (x :: (xs.take i ++ xs.drop i)) := by
      rw [List.append_assoc]
      exact List.perm_middle
    rwa [List.take_append_drop] at h1
  exact p.nodup_iff.mpr (List.nodup_cons.mpr ⟨hx, nd⟩)
theorem nm_main : Nm (Str.ofString "main") := ⟨by unfold Lw; decide +kernel, by decide +kernel, by decide +kernel⟩
theorem program_wp {t g B : Nat} {S : Sto} {wide : Int} (T : Tray t g B S) (hB : B < 100000000000) (hw0 : 0 ≤ wide) (hw1 : wide ≤ 1) {P : PV → Sto → Prop} {R : Str → PV → Sto → Prop}
    (h : ∀ (n : Nat) (ds : List Df) S', S'[n]? = some (.lst (ds.map Df.pv)) → S.length ≤ n → Prg ds → 0 < ds.length → Tray t g (B + 100000) S' → Keep [t, g] S S' → P (.loc n) S') : wp (m__law_program [.loc t, .int wide] S) P R := by
  unfold m__law_program
  rw [callS_wp]
  simp [startE, -e_newK, -addP_loc, -e_lstO]
  refine lst_wp (by simp) ?_
  intro hl S1 e1 k1 hhl
  have T1 := T.keep k1 (by simp) (by simp)
  have ltT := T.lt
  simp [-e_newK, -addP_loc, -e_lstO]
  refine lst_wp (by simp) ?_
  intro n2 S2 e2 k2 _
  have T2 := T1.keep k2 (by simp) (by simp)
  obtain ⟨m, hm, hm0, hm6⟩ : ∃ m : Int, atI [PV.int 3, PV.int 6] wide = some (.int m) ∧ 1 ≤ m ∧ m ≤ 6 := by
    obtain rfl | rfl : wide = 0 ∨ wide = 1 := by omega
    · exact ⟨3, by simp, by decide, by decide⟩
    · exact ⟨6, by simp, by decide, by decide⟩
  simp [e2, hm, -e_newK, -addP_loc, -e_lstO]
  refine draw_wp T2 (by omega) (by omega) (by omega) ?_
  intro many S3 a0 a1 T3 k3
  simp [-e_newK, -addP_loc, -e_lstO]
  refine lst_wp (by simp) ?_
  intro n4 S4 e4 k4 h4
  have T4 := T3.keep k4 (by simp) (by simp)
  have ltT3 := T3.lt
  simp [-e_newK, -addP_loc, -e_lstO]
  refine names_wp T4 (by omega) e4 (by omega) (by omega) a0 (by omega) ?_
  intro nn xs S5 e5 hnn hxl xnd xN xb T5 k5
  have e1' : S5[hl]? = some (.lst (List.map Hd.pv [(Str.ofString "main", [])])) := by
    have := k5.get (k4.get (k3.get (k2.get e1 (by simp)) (by simp; omega)) (by simp)) (by simp; omega)
    simpa [Hd.pv, stL] using this
  have k15 : Keep [t, g] S1 S5 := (((k2.mono (by simp)).trans k3).trans (k4.mono (by simp))).trans k5
  simp [e5, -e_newK, -addP_loc, -e_lstO]
  have hhl1 := lt_of_get e1
  have hnn2 := k15.1
  have hnnlt := lt_of_get e5
  have hS4 := k4.1
  have hS3 := k3.1
  have hS2 := k2.1
  have hlnn : hl ≠ nn := by omega
  refine for_wp (fun dn rs τ S' => ∃ (hs : List Hd) (dnN : List Str) (x3 x6 : Option PV), dn = dnN.map PV.str ∧ τ = [some (.loc t), some (.int wide), some (.loc hl), x3, none, none, x6, none, none, none] ∧ S'[hl]? = some (.lst (hs.map Hd.pv)) ∧ S'[nn]? = some (.lst (xs.map PV.str)) ∧ hs.length = 1 + dn.length ∧
      (hs.map (·.1)).Nodup ∧ (∀ h ∈ hs, Nm h.1) ∧ (∀ h ∈ hs, h.2.Nodup) ∧ (∀ h ∈ hs, ∀ x ∈ h.2, Nm x) ∧ (∀ h ∈ hs, h.2.length ≤ 4) ∧ ((Str.ofString "main", []) : Hd) ∈ hs ∧ (∀ h ∈ hs, h.1 = Str.ofString "main" ∨ h.1 ∈ dnN) ∧ Tray t g (B + 100 + 100 * dn.length) S' ∧ Keep [t, g, hl] S1 S')
    ⟨[(Str.ofString "main", [])], [], none, none, rfl, rfl, e1', e5, rfl, by simp, by simp [nm_main], by simp, by simp, by simp, by simp, by simp, T5.up (by simp), k15.mono fun x hx _ => by simp at hx ⊢; omega⟩ ?_ ?_
  · rintro dn p rs τ S6 J eq ⟨hs, dnN, x3, x6, rfl, rfl, e6, e6n, hl6, nd6, nm6, pd6, pn6, pl6, mn6, in6, T6, k6⟩ hJ
    obtain ⟨dnA, y, rsA, hxs, hdn, rfl, rfl⟩ := split3 eq
    have := strs_inj hdn
    subst this
    have hd : dnN.length < 6 := by
      have := congrArg List.length hxs
      simp at this; omega
    have hyx : y ∈ xs := by rw [hxs]; simp
    have hyn : y ∉ dnN := by
      intro z
      rw [hxs] at xnd
      exact (List.nodup_append.mp xnd).2.2 y z y (by simp) rfl
    have hym : y ≠ Str.ofString "main" := fun z => xb y hyx (by rw [z]; simp [bars])
    refine ⟨by simpa using e6n, _, rfl, ?_⟩
    simp [-e_newK, -addP_loc, -e_lstO]
    have ltT6 := T6.lt
    have lt6 := lt_of_get e6
    have lt6n := lt_of_get e6n
    simp at T6 hl6
    refine lst_wp (by simp) ?_
    intro n7 S7 e7 k7 _
    have T7 := T6.keep k7 (by simp) (by simp)
    obtain ⟨m, hm, hm0, hm6⟩ : ∃ m : Int, atI [PV.int 4, PV.int 5] wide = some (.int m) ∧ 1 ≤ m ∧ m ≤ 5 := by
      obtain rfl | rfl : wide = 0 ∨ wide = 1 := by omega
      · exact ⟨4, by simp, by decide, by decide⟩
      · exact ⟨5, by simp, by decide, by decide⟩
    simp [e7, hm, -e_newK, -addP_loc, -e_lstO]
    refine draw_wp T7 (by omega) (by omega) (by omega) ?_
    intro many2 S8 b0 b1 T8 k8
    have ltT8 := T8.lt
    simp [-e_newK, -addP_loc, -e_lstO]
    refine lst_wp (by simp) ?_
    intro n9 S9 e9 k9 _
    have T9 := T8.keep k9 (by simp) (by simp)
    simp [-e_newK, -addP_loc, -e_lstO]
    refine names_wp T9 (by omega) e9 (by omega) (by omega) b0 (by omega) ?_
    intro np ps S10 e10 _ hpl pnd pN pb T10 k10
    have k610 : Keep [t, g] S6 S10 := (((k7.mono (by simp)).trans k8).trans (k9.mono (by simp))).trans k10
    have e6a := k610.get e6 (by simp; omega)
    have e6b := k610.get e6n (by simp; omega)
    simp [e10, e6a, hl6, -e_newK, -addP_loc, -e_lstO]
    refine draw_wp T10 (by omega) (by omega) (by omega) ?_
    intro i S11 i0 i1 T11 k11
    have e6c := k11.get e6a (by simp; omega)
    have e6d := k11.get e6b (by simp; omega)
    simp [e6c, hl6]
    refine ⟨⟨by omega, i0, by omega⟩, ?_⟩
    have ei : (List.map Hd.pv hs).take i.toNat ++ PV.tup [PV.str y, PV.tup (ps.map PV.str)] :: (List.map Hd.pv hs).drop i.toNat = (hs.take i.toNat ++ [(y, ps)] ++ hs.drop i.toNat).map Hd.pv := by
      simp [List.map_take, List.map_drop, Hd.pv, stL]
    have ei2 : (hs.take i.toNat ++ [(y, ps)] ++ hs.drop i.toNat).map (·.1) = (hs.map (·.1)).take i.toNat ++ [y] ++ (hs.map (·.1)).drop i.toNat := by
      simp [List.map_take, List.map_drop]
    have lens : (hs.take i.toNat ++ [(y, ps)] ++ hs.drop i.toNat).length = 1 + (dnN.length + 1) := by
      have := congrArg List.length (List.take_append_drop i.toNat hs)
      simp only [List.length_append, List.length_cons, List.length_nil] at this ⊢
      omega
    refine hJ _ _ ⟨hs.take i.toNat ++ [(y, ps)] ++ hs.drop i.toNat, dnN ++ [y], _, _, by simp, rfl, ?_, ?_, ?_, ?_, ?_, ?_, ?_, ?_, ?_, ?_, ?_, ?_⟩
    · rw [set_get e6c]
      simpa using ei
    · rw [List.getElem?_set_ne (by omega)]; exact e6d
    · rw [lens]; simp
    · rw [ei2]
      refine nodup_ins nd6 fun z => ?_
      obtain ⟨q, hq, rfl⟩ := List.mem_map.mp z
      rcases in6 q hq with w | w
      · exact hym w
      · exact hyn w
    · intro q hq; rcases mem_ins.mp hq with rfl | hq
      · exact xN y hyx
      · exact nm6 q hq
    · intro q hq; rcases mem_ins.mp hq with rfl | hq
      · exact pnd
      · exact pd6 q hq
    · intro q hq; rcases mem_ins.mp hq with rfl | hq
      · exact pN
      · exact pn6 q hq
    · intro q hq; rcases mem_ins.mp hq with rfl | hq
      · show ps.length ≤ 4; omega
      · exact pl6 q hq
    · exact mem_ins.mpr (.inr mn6)
    · intro q hq; rcases mem_ins.mp hq with rfl | hq
      · exact .inr (by simp)
      · rcases in6 q hq with w | w
        · exact .inl w
        · exact .inr (by simp [w])
    · refine (T11.up (B' := B + 100 + 100 * (dnN.map PV.str ++ [PV.str y]).length) (by simp; omega)).keep (M := [hl]) (.set (by simp)) (by simp; omega) (by simp; omega)
    · exact ((k6.trans ((k610.trans k11).mono fun x hx _ => by simp at hx ⊢; omega))).trans (.set (by simp))
  · rintro τ S6 ⟨hs, dnN, x3, x6, hdn, rfl, e6, e6n, hl6, nd6, nm6, pd6, pn6, pl6, mn6, in6, T6, k6⟩
    refine ⟨by simpa using e6n, ?_⟩
    have hdn := strs_inj hdn
    subst hdn
    simp at T6 hl6
    have T6 := T6.up (B' := B + 1000) (by omega)
    have hxs6 : xs.length ≤ 5 := by omega
    have HS : Hds hs := ⟨nd6, nm6, pd6, pn6, pl6, mn6, by omega⟩
    simp [-e_newK, -addP_loc, -e_lstO]
    have ltT6 := T6.lt
    have lt6 := lt_of_get e6
    refine draw_wp T6 (by omega) (by omega) (by omega) ?_
    intro few S7 f0 f1 T7 k7
    have ltT7 := T7.lt
    simp [-e_newK, -addP_loc, -e_lstO]
    refine lst_wp (by simp) ?_
    intro n8 S8 e8 k8 _
    have T8 := T7.keep k8 (by simp) (by simp)
    simp [-e_newK, -addP_loc, -e_lstO]
    refine names_wp T8 (by omega) e8 (by omega) (by omega) (by omega) (by omega) ?_
    intro nf fs S9 e9 hnf hfl fnd fN fb T9 k9
    have k69 : Keep [t, g] S6 S9 := (k7.trans (k8.mono (by simp))).trans k9
    have hS8 := k8.1
    have hS7 := k7.1
    have lt9 := lt_of_get e9
    simp [-e_newK, -addP_loc, -e_lstO]
    refine lst_wp (by simp) ?_
    intro no S10 e10 k10 hno
    have T10 := T9.keep k10 (by simp) (by simp)
    have ltT9 := T9.lt
    have e9a := k10.get e9 (by simp)
    have e6a := k10.get (k69.get e6 (by simp; omega)) (by simp)
    have lt6a := lt_of_get (k69.get e6 (by simp; omega))
    simp [e6a, -e_newK, -addP_loc, -e_lstO]
    obtain ⟨B1, hB1, T10⟩ : ∃ B1, B1 ≤ B + 2000 ∧ Tray t g B1 S10 := ⟨_, by omega, T10⟩
    refine for_wp (fun dn rs τ S' => ∃ (hd : List Hd) (ds : List Df) (x3 x6 x7 x8 x9 : Option PV), dn = hd.map Hd.pv ∧ hd = ds.map Df.hd ∧ τ = [some (.loc t), some (.int wide), some (.loc hl), x3, some (.loc nf), some (.loc no), x6, x7, x8, x9] ∧ S'[no]? = some (.lst (ds.map Df.pv)) ∧ (∀ h ∈ ds, h.hd ∈ hs) ∧
        (∀ d ∈ ds, ∃ ns : List Str, (∀ x ∈ ns, Nm x) ∧ Rw.oks ns hs d.2.2) ∧ (∀ d ∈ ds, Rw.deps d.2.2 ≤ 4) ∧ (∀ d ∈ ds, (Rw.eachs d.2.2).length ≤ 60) ∧ Tray t g (B1 + 2000 * dn.length) S' ∧ Keep [t, g, no] S10 S')
      ⟨[], [], _, _, none, none, none, rfl, rfl, rfl, e10, by simp, by simp, by simp, by simp, by simpa using T10, .refl⟩ ?_ ?_
    · rintro dn p rs τ S11 J eq ⟨hd, ds, y3, y6, y7, y8, y9, rfl, rfl, rfl, e11, in11, ok11, dep11, cnt11, T11, k11⟩ hJ
      obtain ⟨dA, q, rsA, hhs, hdn, rfl, rfl⟩ := split3 eq
      have hd : ds.length < 6 := by
        have := congrArg List.length hhs
        have h2 := congrArg List.length hdn
        simp at this h2; omega
      have hq : q ∈ hs := by rw [hhs]; simp
      refine ⟨by simpa using k11.get e6a (by simp; omega), [some (.loc t), some (.int wide), some (.loc hl), some (.str q.1), some (.loc nf), some (.loc no), some (.tup (stL q.2)), y7, y8, y9], by simp [Hd.pv], ?_⟩
      have e9b := k11.get e9a (by simp; omega)
      have e6b := k11.get e6a (by simp; omega)
      have lt11 := lt_of_get e11
      have ltT11 := T11.lt
      simp [-e_newK, -addP_loc, -e_lstO, -listP_ap]
      refine list_wp (xs := stL q.2) (by simp) ?_
      intro n12 S12 e12 k12 _
      simp [-e_newK, -addP_loc, -e_lstO, -listP_ap]
      refine addL_wp (k12.get e9b (by simp)) e12 (by have := pl6 q hq; simp [stL]; omega) ?_
      intro ow S13 e13 k13 how
      simp [-e_newK, -addP_loc, -e_lstO, -listP_ap]
      refine lst_wp (by simp) ?_
      intro n14 S14 e14 k14 _
      obtain ⟨le0, hle0, hle1, hle2⟩ : ∃ m : Int, atI [PV.int 10, PV.int 30] wide = some (.int m) ∧ 1 ≤ m ∧ m ≤ 30 := by
        obtain rfl | rfl : wide = 0 ∨ wide = 1 := by omega
        · exact ⟨10, by simp, by decide, by decide⟩
        · exact ⟨30, by simp, by decide, by decide⟩
      simp [e14, hle0, -e_newK, -addP_loc, -e_lstO, -listP_ap]
      refine lst_wp (by simp) ?_
      intro le S15 e15 k15 hle
      have hS12 := k12.1
      have hS13 := k13.1
      have hS14 := k14.1
      have lt13 := lt_of_get e13
      have k1115 : Keep [] S11 S15 := ((k12.trans k13).trans k14).trans k15
      have T15 := T11.keep k1115 (by simp) (by simp)
      have G15 : Gen t g ow hl le (fs ++ q.2) hs S15 := by
        refine ⟨?_, k1115.get e6b (by simp), by omega, by omega, by omega, by omega, by omega, by omega, by omega, by omega, by simp; omega, by have := pl6 q hq; simp; omega, by omega, by omega, pl6⟩
        have := k15.get (k14.get e13 (by simp)) (by simp)
        simpa [stL] using this
      simp [-e_newK, -addP_loc, -e_lstO, -listP_ap]
      refine (gen_wp 8).2 4 _ le0 S15 _ _ (by omega) (by omega) T15 (by simp; omega) G15 e15 (by omega) ?_
      intro rs1 S16 ok1 dep1 len1 T16 el16 k16
      have G16 := G15.keep k16 (by simp [G15.ot, G15.og, G15.ol]) (by simp [G15.ht, G15.hg, G15.hl])
      simp [-e_newK, -addP_loc, -e_lstO, -listP_ap]
      refine (gen_wp 8).2 4 _ _ S16 _ _ (by omega) (by omega) T16 (by simp; omega) G16 el16 (by omega) ?_
      intro rs2 S17 ok2 dep2 len2 T17 el17 k17
      have e17 : S17[no]? = some (.lst (ds.map Df.pv)) := k17.get (k16.get (k1115.get e11 (by simp)) (by simp; omega)) (by simp; omega)
      have pl1 : (Rw.pvs rs1).length = rs1.length := by rw [pvs_map]; simp
      have pl2 : (Rw.pvs rs2).length = rs2.length := by rw [pvs_map]; simp
      have l1 := len_eachs rs1
      have l2 := len_eachs rs2
      simp [e17, pl1, pl2, -e_newK, -addP_loc, -e_lstO, -listP_ap]
      refine ⟨by omega, by omega, ?_⟩
      refine hJ _ _ ⟨ds.map Df.hd ++ [q], ds ++ [(q.1, q.2, rs1 ++ rs2)], _, _, _, _, _, by simp, by simp [Df.hd], rfl, ?_, ?_, ?_, ?_, ?_, ?_, ?_⟩
      · rw [set_get e17]
        simp [Df.pv, pvs_map]
      · intro d hd
        rcases List.mem_append.mp hd with w | w
        · exact in11 d w
        · simp at w; subst w; exact hq
      · intro d hd
        rcases List.mem_append.mp hd with w | w
        · exact ok11 d w
        · simp at w; subst w
          refine ⟨fs ++ q.2, fun x hx => ?_, oks_app.mpr ⟨ok1, ok2⟩⟩
          rcases List.mem_append.mp hx with v | v
          · exact fN x v
          · exact pn6 q hq x v
      · intro d hd
        rcases List.mem_append.mp hd with w | w
        · exact dep11 d w
        · simp at w; subst w
          show Rw.deps (rs1 ++ rs2) ≤ 4
          rw [deps_app]; omega
      · intro d hd
        rcases List.mem_append.mp hd with w | w
        · exact cnt11 d w
        · simp at w; subst w
          show (Rw.eachs (rs1 ++ rs2)).length ≤ 60
          rw [eachs_app, List.length_append]; omega
      · have TT : Tray t g (B1 + 2000 * (ds.length + 1)) S17 := T17.up (by simp; omega)
        simpa using TT.keep (M := [no]) (.set (by simp)) (by simp; omega) (by simp; omega)
      · have kk : Keep [t, g, no] S11 S17 := (((k1115.mono (M' := [t, g, le]) (by simp)).trans k16).trans k17).mono fun x hx hlt => by simp at hx ⊢; omega
        exact (k11.trans kk).trans (.set (by simp))
    · rintro τ S11 ⟨hd, ds, y3, y6, y7, y8, y9, hdn, rfl, rfl, e11, in11, ok11, dep11, cnt11, T11, k11⟩
      have hhs := hds_inj hdn
      refine ⟨by simpa using k11.get e6a (by simp; omega), ?_⟩
      simp
      have hlen : ds.length = hs.length := by rw [hhs]; simp
      refine h no ds S11 e11 (by omega) ⟨by rw [← hhs]; exact HS, fun d hd => by rw [← hhs]; exact ok11 d hd, dep11, cnt11⟩ (by omega) (T11.up (by simp; omega)) ?_
      exact (((k1.mono (M' := [t, g, hl, no]) (by simp)).trans (((k6.mono fun x hx _ => by simp at hx ⊢; omega).trans (k69.mono fun x hx _ => by simp at hx ⊢; omega)).trans ((k10.mono (by simp)).trans (k11.mono fun x hx _ => by simp at hx ⊢; omega)))).mono fun x hx hlt => by simp at hx ⊢; omega)
end K02
namespace K02
open PySem PySem.Spec PyProof.Rows L2 PL
theorem each_row_wp : ∀ (d : Nat) (rs : List Rw) (S : Sto) (P : PV → Sto → Prop) (R : Str → PV → Sto → Prop), Rw.deps rs < d → (Rw.eachs rs).length ≤ 1000 →
    (∀ n S', S'[n]? = some (.lst (Rw.pvs (Rw.eachs rs))) → Keep [] S S' → S.length ≤ n → P (.loc n) S') → wp (m_each_row d [.tup (Rw.pvs rs)] S) P R
  | 0, _, _, _, _, h, _, _ => by omega
  | d + 1, rs, S, P, R, hd, hl, h => by
    unfold m_each_row
    rw [callS_wp]
    simp [startE, -e_newK, -addP_loc, -e_lstO, -listP_ap]
    refine lst_wp (by simp) ?_
    intro n S1 e1 k1 hn
    simp [-e_newK, -addP_loc, -e_lstO, -listP_ap]
    rw [pvs_map]
    refine forM_wp Rw.pv (fun ds τ S' => ∃ (x : Option PV), τ = [some (.tup (rs.map Rw.pv)), some (.loc n), x] ∧ S'[n]? = some (.lst (Rw.pvs (Rw.eachs ds))) ∧ Keep [n] S1 S')
      ⟨none, rfl, e1, .refl⟩ ?_ ?_
    · rintro ds r rs' τ S2 J hrs ⟨x, rfl, e2, k2⟩ hJ
      have lt2 := lt_of_get e2
      have hlen : (Rw.pvs (Rw.eachs ds)).length = (Rw.eachs ds).length := by rw [pvs_map]; simp
      have hle : (Rw.eachs ds).length + r.each.length ≤ 1000 := by
        rw [hrs, eachs_app] at hl
        simp [Rw.eachs] at hl
        omega
      have hrp := Rw.each_pos r
      have hdp : r.dep < d + 1 := by
        rw [hrs, deps_app] at hd
        simp [Rw.deps] at hd
        omega
      have ea : ∀ o, Rw.eachs (ds ++ [o]) = Rw.eachs ds ++ o.each := by intro o; rw [eachs_app]; simp [Rw.eachs]
      refine ⟨by simp, _, rfl, ?_⟩
      simp [e2, hlen, -e_newK, -addP_loc, -e_lstO, -listP_ap]
      refine ⟨by omega, ?_⟩
      have e3 : (S2.set n (.lst (Rw.pvs (Rw.eachs ds) ++ [r.pv])))[n]? = some (.lst (Rw.pvs (Rw.eachs ds) ++ [r.pv])) := set_get e2
      have k3 : Keep [n] S2 (S2.set n (.lst (Rw.pvs (Rw.eachs ds) ++ [r.pv]))) := .set (by simp)
      generalize S2.set n (.lst (Rw.pvs (Rw.eachs ds) ++ [r.pv])) = S3 at *
      have fin : r.each = [r] → J [some (.tup (rs.map Rw.pv)), some (.loc n), some r.pv] S3 := fun hr =>
        hJ _ _ ⟨_, rfl, by rw [e3, ea, hr]; simp [pvs_map], k2.trans k3⟩
      cases r with
      | set x v => simp [Rw.pv] at fin ⊢; exact fin rfl
      | send x => simp [Rw.pv] at fin ⊢; exact fin rfl
      | give x => simp [Rw.pv] at fin ⊢; exact fin rfl
      | iff x a b =>
        have lt3 := lt_of_get e3
        simp [Rw.each] at hle
        simp [Rw.dep] at hdp
        simp [Rw.pv, e3, -e_newK, -addP_loc, -e_lstO, -listP_ap]
        refine each_row_wp d a S3 _ _ (by omega) (by omega) ?_
        intro n4 S4 e4 k4 h4
        simp [-e_newK, -addP_loc, -e_lstO, -listP_ap]
        refine each_row_wp d b S4 _ _ (by omega) (by omega) ?_
        intro n5 S5 e5 k5 h5
        simp [-e_newK, -addP_loc, -e_lstO, -listP_ap]
        refine addL_wp (k5.get e4 (by simp)) e5 (by simp [pvs_map]; omega) ?_
        intro n6 S6 e6 k6 h6
        have e36 : S6[n]? = _ := k6.get (k5.get (k4.get e3 (by simp)) (by simp)) (by simp)
        simp [e36, e6]
        refine ⟨by simp [pvs_map] at *; omega, hJ _ _ ⟨_, rfl, ?_, ?_⟩⟩
        · rw [set_get e36, ea]
          simp [Rw.each, pvs_map, Rw.pv]
        · exact ((k2.trans k3).trans ((((k4.trans k5).trans k6).mono (by simp)))).trans (.set (by simp))
    · rintro τ S2 ⟨x, rfl, e2, k2⟩
      simp
      exact h n S2 e2 ((k1.mono (M' := [n]) (by simp)).trans k2 |>.mono fun x hx hlt => by simp at hx; omega) hn
end K02
namespace K02
open PySem PySem.Spec PyProof.Rows L2 PL
theorem is_name_wp {x : Str} {S : Sto} {P : PV → Sto → Prop} {R : Str → PV → Sto → Prop} (hx : Nm x) (h : ∀ S', Keep [] S S' → P (.bl true) S') : wp (m_is_name [.str x] S) P R := by
  unfold m_is_name
  rw [callS_wp]
  have hq := hx.q
  have hp := hx.p
  have l16 : x.length ≤ 16777216 := by omega
  simp [startE, l16, -e_newK]
  refine ⟨fun _ => ⟨fun _ => ?_, fun z => by exfalso; omega⟩, fun z => by exfalso; omega⟩
  refine acc_map (fun c => PV.str ⟨#[c]⟩) (fun c => PV.bl true) (by simp) (by have := ch_len x; unfold ch at this; simp only [List.length_nil]; omega) (fun c hc acc J hl hJ => ⟨_, rfl, ?_⟩) ?_
  · have hb : decide (Lt c) = true := decide_eq_true (hx.l c hc)
    simp [wipeE, stepE_wp, inB_char, hb, hl]
    exact hJ
  · refine new_wp ?_
    intro n S1 e1 k1 _
    have hbs : ∀ l : List Nat, boolsP (l.map fun _ => PV.bl true) = some (l.map fun _ => true) := by
      intro l
      induction l with
      | nil => rfl
      | cons a l ih => simp [boolsP, ih]
    simp [e1, hbs]
    have : (x.cps.all fun _ => true) = true := by simp [← Array.all_toList]
    rw [this]
    exact h S1 k1
theorem names_asked_wp {r : Rw} {S : Sto} {P : PV → Sto → Prop} {R : Str → PV → Sto → Prop} (h : ∀ n S', (∃ ys, S'[n]? = some (.lst ys) ∧ ys ++ [match r with | .set x _ => .str x | .iff x _ _ => .str x | .send x => .str x | .give x => .str x] = stL r.ins) → Keep [] S S' → S.length ≤ n → P (.loc n) S') : wp (m_names_asked [r.pv] S) P R := by
  unfold m_names_asked
  rw [callS_wp]
  cases r with
  | send x =>
    simp [startE, Rw.pv, -e_lstO, -listP_ap, -slP_tup]
    refine lst_wp (by simp) ?_
    intro n S1 e1 k1 h1
    simp
    exact h n S1 ⟨_, e1, rfl⟩ k1 h1
  | give x =>
    simp [startE, Rw.pv, -e_lstO, -listP_ap, -slP_tup]
    refine lst_wp (by simp) ?_
    intro n S1 e1 k1 h1
    simp
    exact h n S1 ⟨_, e1, rfl⟩ k1 h1
  | iff x a b =>
    simp [startE, Rw.pv, -e_lstO, -listP_ap, -slP_tup]
    refine lst_wp (by simp) ?_
    intro n S1 e1 k1 h1
    simp
    exact h n S1 ⟨_, e1, rfl⟩ k1 h1
  | set x v =>
    cases v with
    | call f xs =>
      simp [startE, Rw.pv, Vl.pv, -e_lstO, -listP_ap]
      refine list_wp (xs := stL xs) (by simp) ?_
      intro n S1 e1 k1 h1
      simp
      exact h n S1 ⟨_, e1, by simp [Rw.ins, Vl.asked, stL]⟩ k1 h1
    | num i =>
      simp [startE, Rw.pv, Vl.pv, -e_lstO, -listP_ap]
      refine lst_wp (by simp) ?_
      intro n S1 e1 k1 h1
      simp
      exact h n S1 ⟨_, e1, rfl⟩ k1 h1
    | _ =>
      simp [startE, Rw.pv, Vl.pv, -e_lstO, -listP_ap]
      refine list_wp (by simp; rfl) ?_
      intro n S1 e1 k1 h1
      simp
      exact h n S1 ⟨_, e1, rfl⟩ k1 h1
end K02
namespace K02
open PySem PySem.Spec PyProof.Rows L2 PL
theorem names_in_wp {r : Rw} {S : Sto} {P : PV → Sto → Prop} {R : Str → PV → Sto → Prop} (h : ∀ n S', S'[n]? = some (.lst (stL r.ins)) → Keep [] S S' → S.length ≤ n → P (.loc n) S') (hl : r.ins.length ≤ 1000) : wp (m_names_in [r.pv] S) P R := by
  unfold m_names_in
  rw [callS_wp]
  simp [startE, -e_lstO, -addP_loc]
  refine names_asked_wp ?_
  rintro n S1 ⟨ys, e1, hy⟩ k1 h1
  have hlen : ys.length + 1 ≤ 1000 := by
    have := congrArg List.length hy
    simp [stL] at this; omega
  cases r <;>
  · simp [Rw.pv, -e_lstO, -addP_loc]
    refine lst_wp (by simp) ?_
    intro n2 S2 e2 k2 h2
    simp [-e_lstO, -addP_loc]
    refine addL_wp (k2.get e1 (by simp)) e2 (by simp; omega) ?_
    intro n3 S3 e3 k3 h3
    simp
    refine h n3 S3 (by rw [e3]; simpa using hy) ((k1.trans k2).trans k3) (by have := k1.1; have := k2.1; omega)
theorem call_of_wp {r : Rw} {S : Sto} {P : PV → Sto → Prop} {R : Str → PV → Sto → Prop} (h : P r.called S) : wp (m_call_of [r.pv] S) P R := by
  unfold m_call_of
  rw [callS_wp]
  cases r with
  | set x v => cases v <;> (simp [startE, Rw.pv, Vl.pv, Rw.called] at h ⊢; exact h)
  | _ => simp [startE, Rw.pv, Rw.called] at h ⊢; exact h
end K02
namespace K02
open PySem PySem.Spec PyProof.Rows L2 PL
theorem is_nameB_wp {x : Str} {S : Sto} {P : PV → Sto → Prop} {R : Str → PV → Sto → Prop} (l16 : x.length ≤ 16777216) (h : ∀ S', Keep [] S S' → P (.bl (nmB x)) S') : wp (m_is_name [.str x] S) P R := by
  unfold m_is_name
  rw [callS_wp]
  simp [startE, l16, -e_newK]
  have hno : ¬ (1 ≤ x.length ∧ x.length ≤ 8) → nmB x = false := by
    intro z
    unfold nmB
    simp only [Bool.and_eq_false_iff, decide_eq_false_iff_not]
    omega
  refine ⟨fun h1 => ⟨fun h2 => ?_, fun z => ?_⟩, fun z => ?_⟩
  · refine accK_wp (fun c => PV.str ⟨#[c]⟩) (fun c => PV.bl (decide (Lt c))) (by simp) (by have := ch_len x; unfold ch at this; simp only [List.length_nil]; omega) (fun c hc acc S' J hl k hJ => ⟨_, rfl, ?_⟩) ?_
    · simp [wipeE, stepE_wp, inB_char, hl]
      exact hJ _ k
    · intro S' k
      refine new_wp ?_
      intro n S1 e1 k1 _
      simp [e1, boolsP_map]
      have : nmB x = x.cps.all fun c => decide (Lt c) := by
        unfold nmB
        simp [ch, show 1 ≤ x.length by omega, show x.length ≤ 8 by omega]
      rw [← this]
      exact h S1 (k.trans k1)
  · have := h S .refl
    rw [hno (by omega)] at this
    exact this
  · have := h S .refl
    rw [hno (by omega)] at this
    exact this
theorem is_sound_wp {d : Df} {hs : List Hd} {od : Nat} {S : Sto} {P : PV → Sto → Prop} {R : Str → PV → Sto → Prop} (ho : Oth od hs S) (hdep : Rw.deps d.2.2 < 6) (hcnt : (Rw.eachs d.2.2).length ≤ 1000) (hins : ∀ r ∈ Rw.eachs d.2.2, r.ins.length ≤ 1000) (hpl : d.2.1.length ≤ 1000) (hnl : ∀ x ∈ namesL d, x.length ≤ 1000)
    (h : ∀ S', Keep [] S S' → P (.bl (soundB hs d)) S') : wp (m_is_sound [d.pv, .loc od] S) P R := by
  have hfl : ((Rw.eachs d.2.2).flatMap Rw.ins).length ≤ 1000 * 1000 := by
    have := len_flatMap_le hins
    omega
  unfold m_is_sound
  rw [callS_wp]
  simp [startE, Df.pv, -e_newK, -addP_loc, -e_lstO, -listP_ap]
  refine each_row_wp 6 _ _ _ _ hdep hcnt ?_
  intro n S1 e1 k1 h1
  simp [e1, -e_newK, -addP_loc, -e_lstO, -listP_ap]
  rw [pvs_map]
  refine accF_wp Rw.pv (fun r => stL r.ins) (fun S' k => by simp; exact pvs_map _ ▸ k.get e1 (by simp)) ?_ (fun r hr acc S2 J hl k2 hJ => ⟨_, rfl, ?_⟩) ?_
  · have : ((Rw.eachs d.2.2).flatMap fun r => stL r.ins) = stL ((Rw.eachs d.2.2).flatMap Rw.ins) := by simp [stL, List.map_flatMap]
    rw [this]
    simp [stL]
    simp at hfl
    omega
  · rw [stepI_wp]
    simp [wipeE, -e_newK, -addP_loc, -e_lstO, -listP_ap]
    refine names_in_wp ?_ (hins r hr)
    intro m S3 e3 k3 h3
    simp [e3, -e_newK, -addP_loc, -e_lstO, -listP_ap]
    refine accK_wp PV.str PV.str (fun S' k => by simp; exact k.get e3 (by simp)) (by simpa [stL] using hl) (fun x hx acc S4 J hl k4 hJ => ⟨_, rfl, ?_⟩) ?_
    · simp [stepE_wp, wipeE, hl]
      exact hJ _ k4
    · intro S4 k4
      exact hJ S4 ((k2.trans k3).trans k4)
  · intro S2 k2
    refine new_wp ?_
    intro m S3 e3 k3 h3
    have lk3 := k3.1
    simp [-e_newK, -addP_loc, -e_lstO, -listP_ap, -slP_loc, -revP_loc, -e_dictM]
    refine list_wp (xs := stL d.2.1) (by simp) ?_
    intro m4 S4 e4 k4 h4
    have lk4 := k4.1
    simp [-e_newK, -addP_loc, -e_lstO, -listP_ap, -slP_loc, -revP_loc, -e_dictM]
    have en : ((Rw.eachs d.2.2).flatMap fun r => stL r.ins) = stL ((Rw.eachs d.2.2).flatMap Rw.ins) := by simp [stL, List.map_flatMap]
    refine addL_wp (by (repeat' (first | assumption | refine Keep.get (by assumption) ?_ (by first | (simp; done) | (simp; omega))))) e4 (by rw [List.nil_append, en]; simp only [stL, List.length_map]; omega) ?_
    intro m5 S5 e5 k5 h5
    have lk5 := k5.1
    have e5 : S5[m5]? = some (.lst (stL (namesL d))) := by rw [e5]; simp [stL, namesL, List.map_flatMap]
    have lnm : (namesL d).length ≤ 1000 * 1000 + 1000 := by simp only [namesL, List.length_append]; omega
    simp [e5, -e_newK, -addP_loc, -e_lstO, -listP_ap, -slP_loc, -revP_loc, -e_dictM]
    refine accK_wp PV.str (fun x => PV.bl (nmB x)) (fun S' k => by simp; (repeat' (first | assumption | refine Keep.get (by assumption) ?_ (by first | (simp; done) | (simp; omega))))) (by simp only [List.length_nil]; omega) (fun x hx acc S6 J hl k6 hJ => ⟨_, rfl, ?_⟩) ?_
    · simp [stepE_wp, wipeE, -e_newK, -addP_loc, -e_lstO, -listP_ap, -slP_loc, -revP_loc, -e_dictM]
      have := hnl x hx
      refine is_nameB_wp (by omega) ?_
      intro S7 k7
      simp [hl]
      exact hJ _ (k6.trans k7)
    · intro S6 k6
      refine new_wp ?_
      intro m7 S7 e7 k7 h7
      have lk7 := k7.1
      simp [e7, boolsP_map, -e_newK, -addP_loc, -e_lstO, -listP_ap, -slP_loc, -revP_loc, -e_dictM]
      have e17 : S7[n]? = some (.lst ((Rw.eachs d.2.2).map Rw.pv)) := by rw [← pvs_map]; (repeat' (first | assumption | refine Keep.get (by assumption) ?_ (by first | (simp; done) | (simp; omega))))
      have kk : Keep [] S S7 := by (repeat (first | exact Keep.refl | refine Keep.step ?_ (by assumption) (by first | (simp; done) | (intro x hx hlt; simp at hx ⊢; omega))))
      refine ⟨fun x hx hf => ?_, fun hall => ?_⟩
      · have : soundB hs d = false := by
          unfold soundB
          simp only [Bool.and_eq_false_iff, List.all_eq_false]
          exact .inl (.inl ⟨x, hx, by simp [hf]⟩)
        rw [← this]
        exact h S7 kk
      have lpl : (stL d.2.1).length = d.2.1.length := by simp [stL]
      simp [keysP_strs, lpl, e17, -e_newK, -addP_loc, -e_lstO, -listP_ap, -slP_loc, -revP_loc, -e_dictM]
      refine ⟨by omega, fun hlt => ?_, fun hlt => ?_⟩
      · have hnd := len_set_lt.mp hlt
        have : soundB hs d = false := by
          unfold soundB
          simp [hnd]
        rw [← this]
        exact h S7 kk
      have hnd : d.2.1.Nodup := by
        rcases Classical.em d.2.1.Nodup with q | q
        · exact q
        · have := len_set_lt.mpr q
          omega
      refine accF_wp Rw.pv (fun r => r.callL.map Cl.pv) (fun S' k => by simp; (repeat' (first | assumption | refine Keep.get (by assumption) ?_ (by first | (simp; done) | (simp; omega))))) ?_ (fun r hr acc S8 J hl k8 hJ => ⟨_, rfl, ?_⟩) ?_
      · have : ((Rw.eachs d.2.2).flatMap fun r => r.callL.map Cl.pv).length ≤ (Rw.eachs d.2.2).length * 1 := by
          refine len_flatMap_le fun r hr => ?_
          rcases callL_some (r := r) with ⟨_, q⟩ | ⟨c, _, q⟩ <;> simp [q]
        simp only [List.length_nil]; omega
      · rw [stepE_wp]
        simp [wipeE, -e_newK, -addP_loc, -e_lstO, -listP_ap, -slP_loc, -revP_loc, -e_dictM]
        refine call_of_wp ?_
        rcases callL_some (r := r) with ⟨q, q2⟩ | ⟨c, q, q2⟩
        · rw [q2] at hJ
          simp [q, -e_newK, -addP_loc, -e_lstO, -listP_ap, -slP_loc, -revP_loc, -e_dictM]
          simpa using hJ _ k8
        · rw [q2] at hJ hl
          simp [q, Cl.pv, -e_newK, -addP_loc, -e_lstO, -listP_ap, -slP_loc, -revP_loc, -e_dictM]
          refine call_of_wp ?_
          simp at hl
          simp [q, show acc.length < 16777216 by omega, -e_newK, -addP_loc, -e_lstO, -listP_ap, -slP_loc, -revP_loc, -e_dictM]
          exact hJ _ k8
      · intro S8 k8
        refine new_wp ?_
        intro m9 S9 e9 k9 h9
        have lk9 := k9.1
        have e9 : S9[m9]? = some (.lst ((callsL d).map Cl.pv)) := by rw [e9]; simp [callsL, List.map_flatMap]
        have o9 : Oth od hs S9 := ho.keep (M := []) (by (repeat (first | exact Keep.refl | refine Keep.step ?_ (by assumption) (by first | (simp; done) | (intro x hx hlt; simp at hx ⊢; omega))))) (by simp)
        have lcl : (callsL d).length ≤ (Rw.eachs d.2.2).length * 1 := by
          refine len_flatMap_le fun r hr => ?_
          rcases callL_some (r := r) with ⟨_, q⟩ | ⟨c, _, q⟩ <;> simp [q]
        simp [e9, -e_newK, -addP_loc, -e_lstO, -listP_ap, -slP_loc, -revP_loc, -e_dictM]
        refine accK_wp Cl.pv (fun c => PV.bl (callB hs c)) (fun S' k => by simp; (repeat' (first | assumption | refine Keep.get (by assumption) ?_ (by first | (simp; done) | (simp; omega))))) (by simp only [List.length_nil]; omega) (fun c hc acc S10 J hl k10 hJ => ⟨[some (.tup [.str d.1, .tup (stL d.2.1), .tup (Rw.pvs d.2.2)]), some (.loc od), some (.loc n), some (.loc m5), some (.loc m9), some (.str d.1), some (.tup (stL d.2.1)), some (.tup (Rw.pvs d.2.2)), none, none, some (.str c.1), some (.tup (stL c.2))], by simp [Cl.pv, wipeE], ?_⟩) ?_
        · obtain ⟨kvs, o1, o2, o3⟩ := (o9.keep k10 (by simp)).ex
          have o4 := o3 c.1
          rw [stepE_wp]
          have := hJ _ k10
          unfold callB at this
          cases hf : firstH hs c.1 with
          | none =>
            rw [hf] at o4 this
            simp only [Option.map_none] at o4
            simp [inB, o1, o4, hl]
            exact this
          | some ps =>
            rw [hf] at o4 this
            simp only [Option.map_some] at o4
            have e1 : (stL ps).length = ps.length := by simp [stL]
            have e2 : (stL c.2).length = c.2.length := by simp [stL]
            simp [inB, o1, o4, hl, e1, e2]
            have e3 : decide ((ps.length : Int) = (c.2.length : Int)) = decide (ps.length = c.2.length) := by
              by_cases q : ps.length = c.2.length <;> simp [q]; omega
            rw [e3]
            exact this
        · intro S10 k10
          refine new_wp ?_
          intro m11 S11 e11 k11 h11
          have lk11 := k11.1
          simp [e11, boolsP_map]
          have kk2 : Keep [] S S11 := by (repeat (first | exact Keep.refl | refine Keep.step ?_ (by assumption) (by first | (simp; done) | (intro x hx hlt; simp at hx ⊢; omega))))
          have := h S11 kk2
          unfold soundB at this
          have e1 : (namesL d).all nmB = true := List.all_eq_true.mpr hall
          simp only [e1, hnd, decide_true, Bool.and_self, Bool.true_and] at this
          exact this
end K02
namespace K02
open PySem PySem.Spec PyProof.Rows L2 PL
/-- the name of the first faulty definition -/
def faultAt (hs : List Hd) : List Str → List Df → Option Str
  | _, [] => none
  | met, d :: ds => if nmB d.1 = true ∧ d.1 ∉ met ∧ soundB hs d = true then faultAt hs (met ++ [d.1]) ds else some d.1
theorem faultAt_cons (hs : List Hd) (met : List Str) (d : Df) (ds : List Df) : faultAt hs met (d :: ds) = if nmB d.1 = true ∧ d.1 ∉ met ∧ soundB hs d = true then faultAt hs (met ++ [d.1]) ds else some d.1 := rfl
/-- what a program is refused with -/
def dueOf (ds : List Df) : Option PV := match faultAt (ds.map Df.hd) [] ds with
  | some x => some (.str x)
  | none => if firstH (ds.map Df.hd) (Str.ofString "main") = some [] then none else some .non
theorem faultAt_ok {hs : List Hd} : ∀ (ds : List Df) (met : List Str), (∀ d ∈ ds, nmB d.1 = true ∧ soundB hs d = true) → (met ++ ds.map (·.1)).Nodup → faultAt hs met ds = none
  | [], met, _, _ => rfl
  | d :: ds, met, h, nd => by
    have h1 := h d (by simp)
    have hn : d.1 ∉ met := fun z => by
      simp only [List.map_cons] at nd
      exact (List.nodup_append.mp nd).2.2 _ z d.1 (by simp) rfl
    unfold faultAt
    rw [if_pos ⟨h1.1, hn, h1.2⟩]
    exact faultAt_ok ds _ (fun e he => h e (by simp [he])) (by simpa using nd)
theorem dueOf_ok {ds : List Df} (p : Prg ds) : dueOf ds = none := by
  unfold dueOf
  rw [faultAt_ok ds [] p.sound (by simpa using p.nd), p.main]
  simp
theorem init_wp {ds : List Df} {sl dl : Nat} {S : Sto} {P : PV → Sto → Prop} {R : Str → PV → Sto → Prop} (hs : S[sl]? = some (.ins "Program" [])) (hd : S[dl]? = some (.lst (ds.map Df.pv))) (z : Sized ds) (hfair : ∀ d ∈ ds, ∀ x ∈ d.2.1, Fair x)
    (h : dueOf ds = none → ∀ n S', S'[sl]? = some (.ins "Program" [(Str.ofString "definitions_kept", .loc n)]) → S'[n]? = some (.lst (ds.map Df.pv)) → S.length ≤ n → Keep [sl] S S' → P .non S')
    (h0 : ∀ w, dueOf ds = some w → ∀ S', Keep [sl] S S' → R (Str.ofString "NoProgram") w S') : wp (m_Program_init [.loc sl, .loc dl] S) P R := by
  unfold m_Program_init
  rw [callS_wp]
  simp [startE, -e_newK, -addP_loc, -e_lstO, -listP_ap, -slP_loc, -revP_loc, -e_dictM]
  refine dict_wp ?_
  intro od S1 e1 k1 h1
  have lk1 := k1.1
  have hne : sl ≠ dl := fun q => by subst q; rw [hs] at hd; cases hd
  have lsl := lt_of_get hs
  have ldl := lt_of_get hd
  have hd1 : S1[dl]? = some (.lst (ds.map Df.pv)) := by (repeat' (first | assumption | refine Keep.get (by assumption) ?_ (by first | (simp; done) | (simp; omega))))
  simp [hd1, -e_newK, -addP_loc, -e_lstO, -listP_ap, -slP_loc, -revP_loc, -e_dictM]
  refine forM_wp Df.pv (fun dn τ S' => ∃ x5 x6 x7, τ = [some (.loc sl), some (.loc dl), some (.loc od), none, none, x5, x6, x7] ∧ Oth od (dn.map Df.hd) S' ∧ Keep [od] S1 S') ⟨_, _, _, rfl, ⟨[], e1, by simp, by simp [valP, firstH]⟩, .refl⟩ ?_ ?_
  · rintro dn d rs τ S2 J heq ⟨x5, x6, x7, rfl, o2, k2⟩ hJ
    have hl : dn.length < ds.length := by rw [heq]; simp
    have := z.len
    refine ⟨by simp; (repeat' (first | assumption | refine Keep.get (by assumption) ?_ (by first | (simp; done) | (simp; omega)))), [some (.loc sl), some (.loc dl), some (.loc od), none, none, some (.str d.1), some (.tup (stL d.2.1)), some (.tup (Rw.pvs d.2.2))], by simp [Df.pv], ?_⟩
    obtain ⟨kvs, q1, q2, q3, q4⟩ := o2.put (f := d.1) (ps := d.2.1) (by simp; omega)
    have fin : ∀ S3, Oth od (dn.map Df.hd ++ [(d.1, d.2.1)]) S3 → Keep [od] S2 S3 → J [some (.loc sl), some (.loc dl), some (.loc od), none, none, some (.str d.1), some (.tup (stL d.2.1)), some (.tup (Rw.pvs d.2.2))] S3 := fun S3 o3 k3 =>
      hJ _ _ ⟨_, _, _, rfl, by simpa [Df.hd] using o3, k2.trans k3⟩
    simp [q1, q2]
    cases hv : valP kvs (.inr d.1) with
    | none => simp; exact fin _ (q4 hv) (.set (by simp))
    | some v => simp; exact fin _ (q3 v hv) .refl
  · rintro τ S2 ⟨x5, x6, x7, rfl, o2, k2⟩
    refine ⟨by simp; (repeat' (first | assumption | refine Keep.get (by assumption) ?_ (by first | (simp; done) | (simp; omega)))), ?_⟩
    simp [-e_newK, -addP_loc, -e_lstO, -listP_ap, -slP_loc, -revP_loc, -e_dictM]
    refine lst_wp (by simp) ?_
    intro md S3 e3 k3 h3
    have lk3 := k3.1
    have o3 := o2.keep k3 (by simp)
    have lod := o2.lt
    have lk2 := k2.1
    have hd3 : S3[dl]? = some (.lst (ds.map Df.pv)) := by (repeat' (first | assumption | refine Keep.get (by assumption) ?_ (by first | (simp; done) | (simp; omega))))
    simp [hd3, -e_newK, -addP_loc, -e_lstO, -listP_ap, -slP_loc, -revP_loc, -e_dictM]
    refine forM_wp Df.pv (fun dn τ S' => ∃ x4, τ = [some (.loc sl), some (.loc dl), some (.loc od), some (.loc md), x4, x5, x6, x7] ∧ S'[md]? = some (.lst ((dn.map (·.1)).map PV.str)) ∧ Keep [md] S3 S' ∧ ∀ rest, ds = dn ++ rest → faultAt (ds.map Df.hd) (dn.map (·.1)) rest = faultAt (ds.map Df.hd) [] ds) ⟨_, rfl, by simpa using e3, .refl, fun rest e => by rw [e]; rfl⟩ ?_ ?_
    · rintro dn d rs τ S4 J heq ⟨x4, rfl, e4, k4, hfa⟩ hJ
      have hm : d ∈ ds := by rw [heq]; simp
      have hl : dn.length < ds.length := by rw [heq]; simp
      have := z.len
      have := z.own d hm
      have hfa := hfa (d :: rs) heq
      rw [faultAt_cons] at hfa
      have bad : ¬ (nmB d.1 = true ∧ d.1 ∉ dn.map (·.1) ∧ soundB (ds.map Df.hd) d = true) → ∀ S9, Keep [md] S3 S9 → R (Str.ofString "NoProgram") (.str d.1) S9 := by
        intro hb S9 k9
        rw [if_neg hb] at hfa
        refine h0 (.str d.1) (by unfold dueOf; rw [← hfa]) S9 ?_
        refine (((Keep.refl (M := [sl]) (S := S)).step k1 (by simp)).step k2 ?_ |>.step k3 (by simp)).step k9 ?_
        · intro x hx hlt; simp at hx; omega
        · intro x hx hlt; simp at hx; omega
      have o4 := o3.keep k4 (by simp; omega)
      refine ⟨by simp; (repeat' (first | assumption | refine Keep.get (by assumption) ?_ (by first | (simp; done) | (simp; omega)))), [some (.loc sl), some (.loc dl), some (.loc od), some (.loc md), some d.pv, x5, x6, x7], by simp, ?_⟩
      simp [-e_newK, -addP_loc, -e_lstO, -listP_ap, -slP_loc, -revP_loc, -e_dictM]
      have pv0 : ∀ S, getP d.pv (.int 0) S = some (.str d.1, S) := by intro S; simp [Df.pv]
      simp [pv0, -e_newK, -addP_loc, -e_lstO, -listP_ap, -slP_loc, -revP_loc, -e_dictM]
      refine is_nameB_wp (by omega) ?_
      intro S5 k5
      have e5 : S5[md]? = some (.lst ((dn.map (·.1)).map PV.str)) := by (repeat' (first | assumption | refine Keep.get (by assumption) ?_ (by first | (simp; done) | (simp; omega))))
      cases hn : nmB d.1 with
      | false =>
        simp [pv0, -e_newK, -addP_loc, -e_lstO, -listP_ap, -slP_loc, -revP_loc, -e_dictM]
        exact bad (by simp [hn]) S5 (k4.trans (k5.mono (by simp)))
      | true =>
        have hin : inB (.str d.1) (.loc md) S5 = some (decide (d.1 ∈ dn.map (·.1))) := inB_strs e5
        by_cases hmet : d.1 ∈ dn.map (·.1)
        · rw [decide_eq_true hmet] at hin
          simp [pv0, hin, -e_newK, -addP_loc, -e_lstO, -listP_ap, -slP_loc, -revP_loc, -e_dictM]
          exact bad (by simp only [not_and]; intro _ z; exact absurd hmet z) S5 (k4.trans (k5.mono (by simp)))
        · rw [decide_eq_false hmet] at hin
          simp [pv0, hin, -e_newK, -addP_loc, -e_lstO, -listP_ap, -slP_loc, -revP_loc, -e_dictM]
          refine is_sound_wp (o4.keep k5 (by simp)) (z.dep d hm) (z.cnt d hm) (z.ins d hm) (z.par d hm) (z.nms d hm) ?_
          intro S6 k6
          have e6 : S6[md]? = some (.lst ((dn.map (·.1)).map PV.str)) := by (repeat' (first | assumption | refine Keep.get (by assumption) ?_ (by first | (simp; done) | (simp; omega))))
          have k46 : Keep [md] S3 S6 := (k4.trans (k5.mono (by simp))).trans (k6.mono (by simp))
          cases hsd : soundB (ds.map Df.hd) d with
          | false =>
            simp [pv0, -e_newK, -addP_loc, -e_lstO, -listP_ap, -slP_loc, -revP_loc, -e_dictM]
            exact bad (by simp [hsd]) S6 k46
          | true =>
            rw [if_pos ⟨hn, hmet, hsd⟩] at hfa
            simp [pv0, e6, -e_newK, -addP_loc, -e_lstO, -listP_ap, -slP_loc, -revP_loc, -e_dictM]
            refine ⟨by omega, hJ _ _ ⟨_, rfl, ?_, ?_, ?_⟩⟩
            · rw [set_get e6]; simp
            · exact k46.trans (.set (by simp))
            · intro rest e
              have : rest = rs := by rw [heq] at e; simpa using e.symm
              subst this
              rw [List.map_append]
              exact hfa
    · rintro τ S4 ⟨x4, rfl, e4, k4, hfa⟩
      refine ⟨by simp; (repeat' (first | assumption | refine Keep.get (by assumption) ?_ (by first | (simp; done) | (simp; omega)))), ?_⟩
      have hfa := hfa [] (by simp)
      have hfa : faultAt (ds.map Df.hd) [] ds = none := hfa.symm
      obtain ⟨kvs, q1, q2, q3⟩ := (o3.keep k4 (by simp; omega)).ex
      have q4 := q3 (Str.ofString "main")
      have hd4 : S4[dl]? = some (.lst (ds.map Df.pv)) := by (repeat' (first | assumption | refine Keep.get (by assumption) ?_ (by first | (simp; done) | (simp; omega))))
      have lk4 := k4.1
      have kall : Keep [sl] S S4 := by
        refine (((Keep.refl (M := [sl]) (S := S)).step k1 (by simp)).step k2 ?_ |>.step k3 (by simp)).step k4 ?_
        · intro x hx hlt; simp at hx; omega
        · intro x hx hlt; simp at hx; omega
      have key : ∀ (b : Bool) (v : PV), ((valP kvs (.inr (Str.ofString "main"))).getD (.tup [.str (Str.ofString "main")])) = v → eqB v (.tup []) S4 = some b → (b = true ↔ firstH (ds.map Df.hd) (Str.ofString "main") = some []) → True := fun _ _ _ _ _ => trivial
      obtain ⟨v, hv, hpl, hiff⟩ : ∃ v, (valP kvs (.inr (Str.ofString "main"))).getD (.tup [.str (Str.ofString "main")]) = v ∧ Pl 1 v ∧ (v = .tup [] ↔ firstH (ds.map Df.hd) (Str.ofString "main") = some []) := by
        rw [q4]
        cases hf : firstH (ds.map Df.hd) (Str.ofString "main") with
        | none => exact ⟨_, rfl, by simp only [Option.map_none, Option.getD_none, Pl, PlL]; exact ⟨ofS_fair "main", trivial⟩, by simp⟩
        | some ps =>
          refine ⟨_, rfl, ?_, by cases ps <;> simp [stL]⟩
          simp only [Option.map_some, Option.getD_some, Pl]
          refine fairL fun x hx => ?_
          unfold firstH at hf
          simp only [Option.map_eq_some_iff] at hf
          obtain ⟨q, hq1, hq2⟩ := hf
          obtain ⟨d, hd, rfl⟩ := List.mem_map.mp (List.mem_of_find?_eq_some hq1)
          exact hfair d hd x (by rw [← hq2] at hx; exact hx)
      obtain ⟨b, hb1, hb2⟩ := eqB_plain (n := 1) (S := S4) (q := PV.tup []) (by decide) hpl (by simp [Pl, PlL])
      simp [q1, hv, hb1, hd4, -e_newK, -addP_loc, -e_lstO, -listP_ap, -slP_loc, -revP_loc, -e_dictM]
      cases hb : b with
      | false =>
        subst hb
        simp [-e_newK, -addP_loc, -e_lstO, -listP_ap, -slP_loc, -revP_loc, -e_dictM]
        refine h0 .non ?_ S4 kall
        unfold dueOf
        rw [hfa]
        simp only
        rw [if_neg]
        intro z
        have := hb2.mpr (hiff.mpr z)
        cases this
      | true =>
        subst hb
        simp [hd4, -e_newK, -addP_loc, -e_lstO, -listP_ap, -slP_loc, -revP_loc, -e_dictM]
        refine list_wp (xs := ds.map Df.pv) (by simp [hd4]) ?_
        intro n S5 e5 k5 h5
        have lk5 := k5.1
        have hs4 : S4[sl]? = some (.ins "Program" []) := by
          refine (Keep.get k4 (Keep.get k3 (Keep.get k2 (Keep.get k1 hs (by simp)) ?_) (by simp)) ?_)
          · simp; omega
          · simp; omega
        have hs5 : S5[sl]? = some (.ins "Program" []) := k5.get hs4 (by simp)
        simp [hs5, putG, -e_newK, -addP_loc, -e_lstO, -listP_ap, -slP_loc, -revP_loc, -e_dictM]
        have hdue : dueOf ds = none := by
          unfold dueOf
          rw [hfa]
          simp only
          rw [if_pos (hiff.mp (hb2.mp rfl))]
        refine h hdue n _ (set_get hs5) ?_ (by omega) ?_
        · rw [List.getElem?_set_ne (by omega)]; exact e5
        · exact (kall.trans (k5.mono (by simp))).trans (.set (by simp))
end K02
namespace K02
open PySem PySem.Spec PyProof.Rows L2 PL
theorem make_wp {ds : List Df} {ha : Nat} {S : Sto} {P : PV → Sto → Prop} {R : Str → PV → Sto → Prop} (e : S[ha]? = some (.lst (ds.map Df.pv))) (z : Sized ds) (hfair : ∀ d ∈ ds, ∀ x ∈ d.2.1, Fair x)
    (h : dueOf ds = none → ∀ pl n S', S'[pl]? = some (.ins "Program" [(Str.ofString "definitions_kept", .loc n)]) → S'[n]? = some (.lst (ds.map Df.pv)) → S.length ≤ pl → S.length ≤ n → Keep [] S S' → P (.loc pl) S')
    (h0 : ∀ w, dueOf ds = some w → ∀ S', Keep [] S S' → R (Str.ofString "NoProgram") w S') :
    wp (m_Program_init [.loc S.length, .loc ha] (S ++ [.ins "Program" []])) (wK (madeO S.length) P R) R := by
  refine init_wp (ds := ds) app_new (by rw [List.getElem?_append_left (lt_of_get e)]; exact e) z hfair ?_ ?_
  · intro hd n S6 i1 i2 i3 k6
    have : S.length ≤ n := by simp at i3; omega
    exact h hd S.length n S6 i1 i2 (Nat.le_refl _) this ((Keep.app (M := [])).step k6 (by intro x hx hlt; simp at hx; omega))
  · intro w hw S6 k6
    exact h0 w hw S6 ((Keep.app (M := [])).step k6 (by intro x hx hlt; simp at hx; omega))
theorem makeP_wp {ds : List Df} {ha : Nat} {S : Sto} {P : PV → Sto → Prop} {R : Str → PV → Sto → Prop} (e : S[ha]? = some (.lst (ds.map Df.pv))) (p : Prg ds)
    (h : ∀ pl n S', S'[pl]? = some (.ins "Program" [(Str.ofString "definitions_kept", .loc n)]) → S'[n]? = some (.lst (ds.map Df.pv)) → S.length ≤ pl → S.length ≤ n → Keep [] S S' → P (.loc pl) S') :
    wp (m_Program_init [.loc S.length, .loc ha] (S ++ [.ins "Program" []])) (wK (madeO S.length) P R) R :=
  make_wp e p.sized (fun d hd => (p.fair d hd).2.1) (fun _ => h) fun w hw => by rw [dueOf_ok p] at hw; cases hw
end K02
namespace K02
open PySem PySem.Spec PyProof.Rows L2 PL
theorem law_each_wp {rs : List Rw} {S : Sto} {P : PV → Sto → Prop} {R : Str → PV → Sto → Prop} (hf : Rw.fairs rs) (hd : Rw.deps rs ≤ 20) (hl : (Rw.eachs rs).length ≤ 1000)
    (h : ∀ n S', S'[n]? = some (.lst (Rw.pvs (Rw.eachs rs))) → Keep [] S S' → S.length ≤ n → P (.loc n) S') : wp (m__law_each [.tup (Rw.pvs rs)] S) P R := by
  unfold m__law_each
  rw [callS_wp]
  simp [startE, -e_newK, -addP_loc, -e_lstO, -listP_ap, -slP_loc, -revP_loc, -e_dictM]
  refine lst_wp (by simp) ?_
  intro fo S1 e1 k1 g1
  have lk1 := k1.1
  simp [-e_newK, -addP_loc, -e_lstO, -listP_ap, -slP_loc, -revP_loc, -e_dictM]
  refine list_wp (xs := Rw.pvs rs) (by simp) ?_
  intro le S2 e2 k2 g2
  have lk2 := k2.1
  simp [-e_newK, -addP_loc, -e_lstO, -listP_ap, -slP_loc, -revP_loc, -e_dictM]
  have lt1 := lt_of_get e1
  refine while_wp (fun m τ S' => ∃ (fs ls : List Rw) (l : Nat) (x3 : Option PV), m = (Rw.eachs ls).length ∧ τ = [some (.tup (Rw.pvs rs)), some (.loc fo), some (.loc l), x3] ∧ S'[fo]? = some (.lst (Rw.pvs fs)) ∧ S'[l]? = some (.lst (Rw.pvs ls)) ∧ S.length ≤ l ∧ fo ≠ l ∧ fs ++ Rw.eachs ls = Rw.eachs rs ∧ Rw.fairs ls ∧ Rw.deps ls ≤ 20 ∧ Keep [] S S')
    ⟨[], rs, le, none, rfl, rfl, by simpa [Rw.pvs] using k2.get e1 (by simp), e2, by omega, by omega, by simp, hf, hd, k1.trans k2⟩ ?_
  rintro m τ S3 C J ⟨fs, ls, l, x3, rfl, rfl, e3, e4, g4, ne, hsum, hfl, hdl, k3⟩ hT hF hJ
  simp [-e_newK, -addP_loc, -e_lstO, -listP_ap, -slP_loc, -revP_loc, -e_dictM]
  refine lst_wp (by simp) ?_
  intro m5 S5 e5 k5 g5
  have lk5 := k5.1
  have e45 : S5[l]? = some (.lst (Rw.pvs ls)) := by (repeat' (first | assumption | refine Keep.get (by assumption) ?_ (by first | (simp; done) | (simp; omega))))
  have e35 : S5[fo]? = some (.lst (Rw.pvs fs)) := by (repeat' (first | assumption | refine Keep.get (by assumption) ?_ (by first | (simp; done) | (simp; omega))))
  obtain ⟨b, hb1, hb2⟩ := eqB_lists (n := 41) (by decide) e45 e5 (Rw.pls hfl _ (by omega)) (by simp [PlL])
  simp [hb1]
  have hlen : (Rw.pvs fs).length = fs.length := by rw [pvs_map]; simp
  have hfs : fs.length + (Rw.eachs ls).length ≤ 1000 := by rw [← List.length_append, hsum]; exact hl
  cases ls with
  | nil =>
    have : b = true := hb2.mpr (by simp [Rw.pvs])
    subst this
    refine hF S5 ?_
    simp [Rw.eachs] at hsum
    subst hsum
    simp
    exact h fo S5 e35 (k3.trans k5) (by omega)
  | cons r ls =>
    have : b = false := by
      cases b with
      | false => rfl
      | true => have := hb2.mp rfl; simp [Rw.pvs] at this
    subst this
    refine hT S5 ?_
    have hrp := Rw.each_pos r
    have hfr : r.fair := hfl.1
    have hfl2 := hfl.2
    simp only [Rw.eachs, List.length_append] at hfs hsum
    simp only [Rw.deps] at hdl
    simp only [Rw.pvs] at e45
    have hll : (Rw.pvs ls).length = ls.length := by rw [pvs_map]; simp
    have ix : ixN (ls.length + 1) 0 = some 0 := by
      unfold ixN; rw [if_pos (by omega), if_pos (by omega)]; rfl
    have e36 : (S5.set l (.lst (Rw.pvs ls)))[fo]? = some (.lst (Rw.pvs fs)) := by rw [List.getElem?_set_ne (Ne.symm ne)]; exact e35
    have lle := len_eachs ls
    simp [e45, hll, ix, e36, hlen, -e_newK, -addP_loc, -e_lstO, -listP_ap, -slP_loc, -revP_loc, -e_dictM]
    refine ⟨by omega, ?_⟩
    have e7 : ((S5.set l (.lst (Rw.pvs ls))).set fo (.lst (Rw.pvs fs ++ [r.pv])))[l]? = some (.lst (Rw.pvs ls)) := by rw [List.getElem?_set_ne ne]; exact set_get e45
    have e8 : ((S5.set l (.lst (Rw.pvs ls))).set fo (.lst (Rw.pvs fs ++ [r.pv])))[fo]? = some (.lst (Rw.pvs (fs ++ [r]))) := by rw [set_get e36]; simp [pvs_map]
    have k7 : Keep [] S ((S5.set l (.lst (Rw.pvs ls))).set fo (.lst (Rw.pvs fs ++ [r.pv]))) := ((k3.trans k5).step (.set (M := [l]) (by simp)) (by intro x hx hlt; simp at hx; omega)).step (.set (M := [fo]) (by simp)) (by intro x hx hlt; simp at hx; omega)
    generalize (S5.set l (.lst (Rw.pvs ls))).set fo (.lst (Rw.pvs fs ++ [r.pv])) = S7 at *
    have fin : r.each = [r] → J [some (.tup (Rw.pvs rs)), some (.loc fo), some (.loc l), some r.pv] S7 := fun hr =>
      hJ _ _ _ (by rw [Rw.eachs, List.length_append]; omega) ⟨fs ++ [r], ls, l, _, rfl, rfl, e8, e7, g4, ne, by rw [← hsum, hr]; simp, hfl2, by omega, k7⟩
    cases r with
    | set x v => simp [Rw.pv] at fin ⊢; exact fin rfl
    | send x => simp [Rw.pv] at fin ⊢; exact fin rfl
    | give x => simp [Rw.pv] at fin ⊢; exact fin rfl
    | iff x a b =>
      simp only [Rw.each, List.length_cons, List.length_append] at hfs
      simp only [Rw.dep] at hdl
      have hla := len_eachs a
      have hlb := len_eachs b
      have lt7 := lt_of_get e8
      have lt7l := lt_of_get e7
      clear fin
      simp [Rw.pv, -e_newK, -addP_loc, -e_lstO, -listP_ap, -slP_loc, -revP_loc, -e_dictM]
      refine list_wp (xs := Rw.pvs a) (by simp) ?_
      intro n8 S8 f8 k8 g8
      have lk8 := k8.1
      simp [-e_newK, -addP_loc, -e_lstO, -listP_ap, -slP_loc, -revP_loc, -e_dictM]
      refine list_wp (xs := Rw.pvs b) (by simp) ?_
      intro n9 S9 f9 k9 g9
      have lk9 := k9.1
      simp [-e_newK, -addP_loc, -e_lstO, -listP_ap, -slP_loc, -revP_loc, -e_dictM]
      refine addL_wp (by (repeat' (first | assumption | refine Keep.get (by assumption) ?_ (by first | (simp; done) | (simp; omega))))) f9 (by simp [pvs_map]; omega) ?_
      intro n10 S10 f10 k10 g10
      have lk10 := k10.1
      simp [-e_newK, -addP_loc, -e_lstO, -listP_ap, -slP_loc, -revP_loc, -e_dictM]
      refine addL_wp f10 (by (repeat' (first | assumption | refine Keep.get (by assumption) ?_ (by first | (simp; done) | (simp; omega))))) (by simp [pvs_map]; omega) ?_
      intro n11 S11 f11 k11 g11
      have lk11 := k11.1
      simp
      have hk := k7.1
      refine hJ _ _ _ ?_ ⟨fs ++ [.iff x a b], a ++ b ++ ls, n11, _, rfl, rfl, by (repeat' (first | assumption | refine Keep.get (by assumption) ?_ (by first | (simp; done) | (simp; omega)))), by rw [f11]; simp [pvs_map], by omega, by omega, ?_, ?_, ?_, ?_⟩
      · rw [eachs_app, eachs_app, Rw.eachs, List.length_append, List.length_append, List.length_append]; simp only [Rw.each, List.length_cons, List.length_append]; omega
      · rw [← hsum]; simp [eachs_app, Rw.each]
      · rw [fairs_iff]
        intro q hq
        simp only [List.mem_append] at hq
        rcases hq with (hq | hq) | hq
        · exact fairs_iff.mp hfr.2.1 q hq
        · exact fairs_iff.mp hfr.2.2 q hq
        · exact fairs_iff.mp hfl2 q hq
      · rw [deps_app, deps_app]; omega
      · exact (((k7.trans k8).trans k9).trans k10).trans k11
end K02
namespace K02
open PySem PySem.Spec PyProof.Rows L2 PL
theorem flatMap_ite_nil {α β : Type} (p : α → Bool) (g : α → β) : ∀ xs : List α, (xs.flatMap fun x => if p x = true then [] else [g x]).isEmpty = xs.all p
  | [] => rfl
  | x :: xs => by
    rw [List.flatMap_cons, List.all_cons]
    cases h : p x with
    | true => simpa using flatMap_ite_nil p g xs
    | false => simp
theorem fair_sign {x : Str} (hf : Fair x) : ∀ c ∈ x.cps.toList, Pl 0 (.str ⟨#[c]⟩) := fun c hc => by
  unfold Fair at hf
  rw [← Array.all_toList, List.all_eq_true] at hf
  have := hf c hc
  simp only [Pl]
  simpa using this
theorem law_name_wp {x : Str} {S : Sto} {P : PV → Sto → Prop} {R : Str → PV → Sto → Prop} (l16 : x.length ≤ 16777216) (hf : Fair x) (h : ∀ S', Keep [] S S' → P (.bl (nmB x)) S') : wp (m__law_is_name [.str x] S) P R := by
  unfold m__law_is_name
  rw [callS_wp]
  simp [startE, l16, -e_newK, -addP_loc, -e_lstO, -listP_ap, -slP_loc, -revP_loc, -e_dictM]
  have hno : ¬ (1 ≤ x.length ∧ x.length ≤ 8) → nmB x = false := by
    intro z
    unfold nmB
    simp only [Bool.and_eq_false_iff, decide_eq_false_iff_not]
    omega
  refine ⟨fun h1 => ⟨fun h2 => ?_, fun z => ?_⟩, fun z => ?_⟩
  · refine accF_wp (fun c => PV.str ⟨#[c]⟩) (fun c => if decide (Lt c) = true then [] else [PV.str ⟨#[c]⟩]) (by simp) (by
        have := len_flatMap_le (xs := x.cps.toList) (f := fun c => if decide (Lt c) = true then [] else [PV.str ⟨#[c]⟩]) (c := 1) (fun c _ => by split <;> simp)
        have h3 := ch_len x
        unfold ch at h3
        simp only [List.length_nil]; omega) (fun c hc acc S' J hl k hJ => ⟨_, rfl, ?_⟩) ?_
    · rw [stepE_wp]
      by_cases hb : Lt c
      · have := hJ S' k
        simp [wipeE, inB_char, hb, -e_newK, -addP_loc, -e_lstO, -listP_ap, -slP_loc, -revP_loc, -e_dictM]
        simpa [hb] using this
      · have := hJ S' k
        simp [hb] at this hl
        simp [wipeE, inB_char, hb, -e_newK, -addP_loc, -e_lstO, -listP_ap, -slP_loc, -revP_loc, -e_dictM]
        exact ⟨by omega, this⟩
    · intro S' k
      refine new_wp ?_
      intro n S1 e1 k1 g1
      have lk1 := k1.1
      simp [-e_newK, -addP_loc, -e_lstO, -listP_ap, -slP_loc, -revP_loc, -e_dictM]
      refine lst_wp (by simp) ?_
      intro n2 S2 e2 k2 g2
      have lk2 := k2.1
      have hb := eqB_lnil (n := 0) (S := S2) (by decide) (k2.get e1 (by simp)) e2 (fun p hp => by
        left
        simp only [List.nil_append] at hp
        obtain ⟨c, hc, hp⟩ := List.mem_flatMap.mp hp
        split at hp
        · simp at hp
        · simp at hp; subst hp; exact fair_sign hf c hc)
      have : nmB x = ([] ++ x.cps.toList.flatMap fun c => if decide (Lt c) = true then [] else [PV.str ⟨#[c]⟩]).isEmpty := by
        rw [List.nil_append, flatMap_ite_nil]
        unfold nmB
        simp [ch, show 1 ≤ x.length by omega, show x.length ≤ 8 by omega]
      rw [← this] at hb
      simp [hb, -e_newK, -addP_loc, -e_lstO, -listP_ap, -slP_loc, -revP_loc, -e_dictM]
      exact h S2 ((k.trans k1).trans k2)
  · have := h S .refl
    rw [hno (by omega)] at this
    exact this
  · have := h S .refl
    rw [hno (by omega)] at this
    exact this
def ins2 : Rw → List Str
  | .set x v => x :: v.asked
  | .iff x _ _ => [x]
  | .send x => [x]
  | .give x => [x]
theorem mem_ins2 {r : Rw} {x : Str} : x ∈ ins2 r ↔ x ∈ r.ins := by
  cases r <;> simp [ins2, Rw.ins, or_comm]
def callV (c : Cl) : PV := .tup [.str (Str.ofString "call"), .str c.1, .tup (stL c.2)]
theorem in_row_wp {r : Rw} {S : Sto} {P : PV → Sto → Prop} {R : Str → PV → Sto → Prop} (hl : r.ins.length ≤ 1000)
    (h : ∀ n f c S', S'[n]? = some (.lst [.loc f, .loc c]) → S'[f]? = some (.lst (stL (ins2 r))) → S'[c]? = some (.lst (r.callL.map callV)) → Keep [] S S' → P (.loc n) S') : wp (m__law_in_row [r.pv] S) P R := by
  unfold m__law_in_row
  rw [callS_wp]
  cases r with
  | iff x a b =>
    simp [startE, Rw.pv, -e_newK, -addP_loc, -e_lstO, -listP_ap, -slP_loc, -revP_loc, -e_dictM]
    refine lst_wp (by simp) ?_
    intro n1 S1 e1 k1 g1
    have lk1 := k1.1
    simp [-e_newK, -addP_loc, -e_lstO, -listP_ap, -slP_loc, -revP_loc, -e_dictM]
    refine lst_wp (by simp) ?_
    intro n2 S2 e2 k2 g2
    have lk2 := k2.1
    simp [-e_newK, -addP_loc, -e_lstO, -listP_ap, -slP_loc, -revP_loc, -e_dictM]
    refine lst_wp (by simp) ?_
    intro n3 S3 e3 k3 g3
    have lk3 := k3.1
    simp [-e_newK, -addP_loc, -e_lstO, -listP_ap, -slP_loc, -revP_loc, -e_dictM]
    exact h n3 n1 n2 S3 e3 (by simpa [ins2, stL] using (show S3[n1]? = _ by (repeat' (first | assumption | refine Keep.get (by assumption) ?_ (by first | (simp; done) | (simp; omega)))))) (by simpa [Rw.callL] using (show S3[n2]? = _ by (repeat' (first | assumption | refine Keep.get (by assumption) ?_ (by first | (simp; done) | (simp; omega)))))) (by (repeat (first | exact Keep.refl | refine Keep.step ?_ (by assumption) (by first | (simp; done) | (intro x hx hlt; simp at hx ⊢; omega)))))
  | send x =>
    simp [startE, Rw.pv, -e_newK, -addP_loc, -e_lstO, -listP_ap, -slP_loc, -revP_loc, -e_dictM]
    refine lst_wp (by simp) ?_
    intro n1 S1 e1 k1 g1
    have lk1 := k1.1
    simp [-e_newK, -addP_loc, -e_lstO, -listP_ap, -slP_loc, -revP_loc, -e_dictM]
    refine lst_wp (by simp) ?_
    intro n2 S2 e2 k2 g2
    have lk2 := k2.1
    simp [-e_newK, -addP_loc, -e_lstO, -listP_ap, -slP_loc, -revP_loc, -e_dictM]
    refine lst_wp (by simp) ?_
    intro n3 S3 e3 k3 g3
    have lk3 := k3.1
    simp [-e_newK, -addP_loc, -e_lstO, -listP_ap, -slP_loc, -revP_loc, -e_dictM]
    exact h n3 n1 n2 S3 e3 (by simpa [ins2, stL] using (show S3[n1]? = _ by (repeat' (first | assumption | refine Keep.get (by assumption) ?_ (by first | (simp; done) | (simp; omega)))))) (by simpa [Rw.callL] using (show S3[n2]? = _ by (repeat' (first | assumption | refine Keep.get (by assumption) ?_ (by first | (simp; done) | (simp; omega)))))) (by (repeat (first | exact Keep.refl | refine Keep.step ?_ (by assumption) (by first | (simp; done) | (intro x hx hlt; simp at hx ⊢; omega)))))
  | give x =>
    simp [startE, Rw.pv, -e_newK, -addP_loc, -e_lstO, -listP_ap, -slP_loc, -revP_loc, -e_dictM]
    refine lst_wp (by simp) ?_
    intro n1 S1 e1 k1 g1
    have lk1 := k1.1
    simp [-e_newK, -addP_loc, -e_lstO, -listP_ap, -slP_loc, -revP_loc, -e_dictM]
    refine lst_wp (by simp) ?_
    intro n2 S2 e2 k2 g2
    have lk2 := k2.1
    simp [-e_newK, -addP_loc, -e_lstO, -listP_ap, -slP_loc, -revP_loc, -e_dictM]
    refine lst_wp (by simp) ?_
    intro n3 S3 e3 k3 g3
    have lk3 := k3.1
    simp [-e_newK, -addP_loc, -e_lstO, -listP_ap, -slP_loc, -revP_loc, -e_dictM]
    exact h n3 n1 n2 S3 e3 (by simpa [ins2, stL] using (show S3[n1]? = _ by (repeat' (first | assumption | refine Keep.get (by assumption) ?_ (by first | (simp; done) | (simp; omega)))))) (by simpa [Rw.callL] using (show S3[n2]? = _ by (repeat' (first | assumption | refine Keep.get (by assumption) ?_ (by first | (simp; done) | (simp; omega)))))) (by (repeat (first | exact Keep.refl | refine Keep.step ?_ (by assumption) (by first | (simp; done) | (intro x hx hlt; simp at hx ⊢; omega)))))
  | set x v =>
    have hv : v.asked.length ≤ 1000 := by simp [Rw.ins] at hl; omega
    cases v with
    | call f xs =>
      simp only [Vl.asked] at hv
      simp [startE, Rw.pv, Vl.pv, -e_newK, -addP_loc, -e_lstO, -listP_ap, -slP_loc, -revP_loc, -e_dictM]
      refine lst_wp (by simp) ?_
      intro n1 S1 e1 k1 g1
      have lk1 := k1.1
      simp [-e_newK, -addP_loc, -e_lstO, -listP_ap, -slP_loc, -revP_loc, -e_dictM]
      refine lst_wp (by simp) ?_
      intro n2 S2 e2 k2 g2
      have lk2 := k2.1
      have ne : n1 ≠ n2 := by have := lt_of_get e1; omega
      simp [e2, -e_newK, -addP_loc, -e_lstO, -listP_ap, -slP_loc, -revP_loc, -e_dictM]
      have e3 := k2.get e1 (by simp)
      have e5 : (S2.set n2 (.lst [.tup [.str (Str.ofString "call"), .str f, .tup (stL xs)]]))[n2]? = some (.lst [.tup [.str (Str.ofString "call"), .str f, .tup (stL xs)]]) := set_get e2
      have e6 : (S2.set n2 (.lst [.tup [.str (Str.ofString "call"), .str f, .tup (stL xs)]]))[n1]? = some (.lst [.str x]) := by
        rw [List.getElem?_set_ne (Ne.symm ne)]; exact e3
      have k5 : Keep [] S (S2.set n2 (.lst [.tup [.str (Str.ofString "call"), .str f, .tup (stL xs)]])) := (k1.trans k2).step (M' := [n2]) (.set (by simp)) (by intro z hz hlt; simp at hz; omega)
      generalize S2.set n2 (.lst [.tup [.str (Str.ofString "call"), .str f, .tup (stL xs)]]) = S5 at e5 e6 k5
      refine list_wp (xs := stL xs) (by simp) ?_
      intro n6 S6 e7 k6 g6
      have lk6 := k6.1
      simp [-e_newK, -addP_loc, -e_lstO, -listP_ap, -slP_loc, -revP_loc, -e_dictM]
      refine addL_wp (by (repeat' (first | assumption | refine Keep.get (by assumption) ?_ (by first | (simp; done) | (simp; omega))))) e7 (by simp [stL]; omega) ?_
      intro n7 S7 e8 k7 g7
      have lk7 := k7.1
      simp [-e_newK, -addP_loc, -e_lstO, -listP_ap, -slP_loc, -revP_loc, -e_dictM]
      refine lst_wp (by simp) ?_
      intro n8 S8 e9 k8 g8
      have lk8 := k8.1
      simp [-e_newK, -addP_loc, -e_lstO, -listP_ap, -slP_loc, -revP_loc, -e_dictM]
      exact h n8 n7 n2 S8 e9 (by simpa [ins2, stL, Vl.asked] using (show S8[n7]? = _ by (repeat' (first | assumption | refine Keep.get (by assumption) ?_ (by first | (simp; done) | (simp; omega)))))) (by simpa [Rw.callL, callV, stL] using (show S8[n2]? = _ by (repeat' (first | assumption | refine Keep.get (by assumption) ?_ (by first | (simp; done) | (simp; omega)))))) (by (repeat (first | exact Keep.refl | refine Keep.step ?_ (by assumption) (by first | (simp; done) | (intro x hx hlt; simp at hx ⊢; omega)))))
    | num i =>
      simp [startE, Rw.pv, Vl.pv, -e_newK, -addP_loc, -e_lstO, -listP_ap, -slP_loc, -revP_loc, -e_dictM]
      refine lst_wp (by simp) ?_
      intro n1 S1 e1 k1 g1
      have lk1 := k1.1
      simp [-e_newK, -addP_loc, -e_lstO, -listP_ap, -slP_loc, -revP_loc, -e_dictM]
      refine lst_wp (by simp) ?_
      intro n2 S2 e2 k2 g2
      have lk2 := k2.1
      simp [-e_newK, -addP_loc, -e_lstO, -listP_ap, -slP_loc, -revP_loc, -e_dictM]
      refine lst_wp (by simp) ?_
      intro n3 S3 e3 k3 g3
      have lk3 := k3.1
      simp [-e_newK, -addP_loc, -e_lstO, -listP_ap, -slP_loc, -revP_loc, -e_dictM]
      exact h n3 n1 n2 S3 e3 (by simpa [ins2, stL, Vl.asked] using (show S3[n1]? = _ by (repeat' (first | assumption | refine Keep.get (by assumption) ?_ (by first | (simp; done) | (simp; omega)))))) (by simpa [Rw.callL] using (show S3[n2]? = _ by (repeat' (first | assumption | refine Keep.get (by assumption) ?_ (by first | (simp; done) | (simp; omega)))))) (by (repeat (first | exact Keep.refl | refine Keep.step ?_ (by assumption) (by first | (simp; done) | (intro x hx hlt; simp at hx ⊢; omega)))))
    | copy y =>
      simp [startE, Rw.pv, Vl.pv, -e_newK, -addP_loc, -e_lstO, -listP_ap, -slP_loc, -revP_loc, -e_dictM]
      refine lst_wp (by simp) ?_
      intro n1 S1 e1 k1 g1
      have lk1 := k1.1
      simp [-e_newK, -addP_loc, -e_lstO, -listP_ap, -slP_loc, -revP_loc, -e_dictM]
      refine lst_wp (by simp) ?_
      intro n2 S2 e2 k2 g2
      have lk2 := k2.1
      simp [-e_newK, -addP_loc, -e_lstO, -listP_ap, -slP_loc, -revP_loc, -e_dictM]
      refine list_wp (xs := [.str y]) (by simp) ?_
      intro n6 S6 e7 k6 g6
      have lk6 := k6.1
      simp [-e_newK, -addP_loc, -e_lstO, -listP_ap, -slP_loc, -revP_loc, -e_dictM]
      refine addL_wp (by (repeat' (first | assumption | refine Keep.get (by assumption) ?_ (by first | (simp; done) | (simp; omega))))) e7 (by simp) ?_
      intro n7 S7 e8 k7 g7
      have lk7 := k7.1
      simp [-e_newK, -addP_loc, -e_lstO, -listP_ap, -slP_loc, -revP_loc, -e_dictM]
      refine lst_wp (by simp) ?_
      intro n8 S8 e9 k8 g8
      have lk8 := k8.1
      simp [-e_newK, -addP_loc, -e_lstO, -listP_ap, -slP_loc, -revP_loc, -e_dictM]
      exact h n8 n7 n2 S8 e9 (by simpa [ins2, stL, Vl.asked] using (show S8[n7]? = _ by (repeat' (first | assumption | refine Keep.get (by assumption) ?_ (by first | (simp; done) | (simp; omega)))))) (by simpa [Rw.callL] using (show S8[n2]? = _ by (repeat' (first | assumption | refine Keep.get (by assumption) ?_ (by first | (simp; done) | (simp; omega)))))) (by (repeat (first | exact Keep.refl | refine Keep.step ?_ (by assumption) (by first | (simp; done) | (intro x hx hlt; simp at hx ⊢; omega)))))
    | add y z =>
      simp [startE, Rw.pv, Vl.pv, -e_newK, -addP_loc, -e_lstO, -listP_ap, -slP_loc, -revP_loc, -e_dictM]
      refine lst_wp (by simp) ?_
      intro n1 S1 e1 k1 g1
      have lk1 := k1.1
      simp [-e_newK, -addP_loc, -e_lstO, -listP_ap, -slP_loc, -revP_loc, -e_dictM]
      refine lst_wp (by simp) ?_
      intro n2 S2 e2 k2 g2
      have lk2 := k2.1
      simp [-e_newK, -addP_loc, -e_lstO, -listP_ap, -slP_loc, -revP_loc, -e_dictM]
      refine list_wp (xs := [.str y, .str z]) (by simp) ?_
      intro n6 S6 e7 k6 g6
      have lk6 := k6.1
      simp [-e_newK, -addP_loc, -e_lstO, -listP_ap, -slP_loc, -revP_loc, -e_dictM]
      refine addL_wp (by (repeat' (first | assumption | refine Keep.get (by assumption) ?_ (by first | (simp; done) | (simp; omega))))) e7 (by simp) ?_
      intro n7 S7 e8 k7 g7
      have lk7 := k7.1
      simp [-e_newK, -addP_loc, -e_lstO, -listP_ap, -slP_loc, -revP_loc, -e_dictM]
      refine lst_wp (by simp) ?_
      intro n8 S8 e9 k8 g8
      have lk8 := k8.1
      simp [-e_newK, -addP_loc, -e_lstO, -listP_ap, -slP_loc, -revP_loc, -e_dictM]
      exact h n8 n7 n2 S8 e9 (by simpa [ins2, stL, Vl.asked] using (show S8[n7]? = _ by (repeat' (first | assumption | refine Keep.get (by assumption) ?_ (by first | (simp; done) | (simp; omega)))))) (by simpa [Rw.callL] using (show S8[n2]? = _ by (repeat' (first | assumption | refine Keep.get (by assumption) ?_ (by first | (simp; done) | (simp; omega)))))) (by (repeat (first | exact Keep.refl | refine Keep.step ?_ (by assumption) (by first | (simp; done) | (intro x hx hlt; simp at hx ⊢; omega)))))
    | read =>
      simp [startE, Rw.pv, Vl.pv, -e_newK, -addP_loc, -e_lstO, -listP_ap, -slP_loc, -revP_loc, -e_dictM]
      refine lst_wp (by simp) ?_
      intro n1 S1 e1 k1 g1
      have lk1 := k1.1
      simp [-e_newK, -addP_loc, -e_lstO, -listP_ap, -slP_loc, -revP_loc, -e_dictM]
      refine lst_wp (by simp) ?_
      intro n2 S2 e2 k2 g2
      have lk2 := k2.1
      simp [-e_newK, -addP_loc, -e_lstO, -listP_ap, -slP_loc, -revP_loc, -e_dictM]
      refine list_wp (xs := []) (by simp) ?_
      intro n6 S6 e7 k6 g6
      have lk6 := k6.1
      simp [-e_newK, -addP_loc, -e_lstO, -listP_ap, -slP_loc, -revP_loc, -e_dictM]
      refine addL_wp (by (repeat' (first | assumption | refine Keep.get (by assumption) ?_ (by first | (simp; done) | (simp; omega))))) e7 (by simp) ?_
      intro n7 S7 e8 k7 g7
      have lk7 := k7.1
      simp [-e_newK, -addP_loc, -e_lstO, -listP_ap, -slP_loc, -revP_loc, -e_dictM]
      refine lst_wp (by simp) ?_
      intro n8 S8 e9 k8 g8
      have lk8 := k8.1
      simp [-e_newK, -addP_loc, -e_lstO, -listP_ap, -slP_loc, -revP_loc, -e_dictM]
      exact h n8 n7 n2 S8 e9 (by simpa [ins2, stL, Vl.asked] using (show S8[n7]? = _ by (repeat' (first | assumption | refine Keep.get (by assumption) ?_ (by first | (simp; done) | (simp; omega)))))) (by simpa [Rw.callL] using (show S8[n2]? = _ by (repeat' (first | assumption | refine Keep.get (by assumption) ?_ (by first | (simp; done) | (simp; omega)))))) (by (repeat (first | exact Keep.refl | refine Keep.step ?_ (by assumption) (by first | (simp; done) | (intro x hx hlt; simp at hx ⊢; omega)))))
    | clean y =>
      simp [startE, Rw.pv, Vl.pv, -e_newK, -addP_loc, -e_lstO, -listP_ap, -slP_loc, -revP_loc, -e_dictM]
      refine lst_wp (by simp) ?_
      intro n1 S1 e1 k1 g1
      have lk1 := k1.1
      simp [-e_newK, -addP_loc, -e_lstO, -listP_ap, -slP_loc, -revP_loc, -e_dictM]
      refine lst_wp (by simp) ?_
      intro n2 S2 e2 k2 g2
      have lk2 := k2.1
      simp [-e_newK, -addP_loc, -e_lstO, -listP_ap, -slP_loc, -revP_loc, -e_dictM]
      refine list_wp (xs := [.str y]) (by simp) ?_
      intro n6 S6 e7 k6 g6
      have lk6 := k6.1
      simp [-e_newK, -addP_loc, -e_lstO, -listP_ap, -slP_loc, -revP_loc, -e_dictM]
      refine addL_wp (by (repeat' (first | assumption | refine Keep.get (by assumption) ?_ (by first | (simp; done) | (simp; omega))))) e7 (by simp) ?_
      intro n7 S7 e8 k7 g7
      have lk7 := k7.1
      simp [-e_newK, -addP_loc, -e_lstO, -listP_ap, -slP_loc, -revP_loc, -e_dictM]
      refine lst_wp (by simp) ?_
      intro n8 S8 e9 k8 g8
      have lk8 := k8.1
      simp [-e_newK, -addP_loc, -e_lstO, -listP_ap, -slP_loc, -revP_loc, -e_dictM]
      exact h n8 n7 n2 S8 e9 (by simpa [ins2, stL, Vl.asked] using (show S8[n7]? = _ by (repeat' (first | assumption | refine Keep.get (by assumption) ?_ (by first | (simp; done) | (simp; omega)))))) (by simpa [Rw.callL] using (show S8[n2]? = _ by (repeat' (first | assumption | refine Keep.get (by assumption) ?_ (by first | (simp; done) | (simp; omega)))))) (by (repeat (first | exact Keep.refl | refine Keep.step ?_ (by assumption) (by first | (simp; done) | (intro x hx hlt; simp at hx ⊢; omega)))))
end K02
namespace K02
open PySem PySem.Spec PyProof.Rows L2 PL
theorem tcount_strs (ps : List Str) (x : Str) (S : Sto) : tcountP (.tup (stL ps)) [.str x] S = some (.int (ps.count x : Nat), S) := by
  unfold tcountP
  have h1 : (stL ps).all flatP = true := by simp [stL, flatP]
  show (if flatP (.str x) = true ∧ (stL ps).all flatP = true then some (PV.int (((stL ps).countP fun z => eqV (flatW z) (flatW (.str x)) : Nat) : Int), S) else none) = _
  rw [if_pos ⟨rfl, h1⟩]
  congr 4
  simp only [stL, List.countP_map]
  rfl
theorem flatMap_ite {α β : Type} (p : α → Bool) (g : α → β) : ∀ xs : List α, (xs.flatMap fun x => if p x = true then [g x] else []).isEmpty = xs.all fun x => !p x
  | [] => rfl
  | x :: xs => by
    rw [List.flatMap_cons, List.all_cons]
    cases h : p x with
    | false => simpa using flatMap_ite p g xs
    | true => simp
theorem len_ite {α β : Type} (p : α → Bool) (g : α → β) : ∀ xs : List α, (xs.flatMap fun x => if p x = true then [g x] else []).length ≤ xs.length
  | [] => by simp
  | x :: xs => by
    rw [List.flatMap_cons, List.length_append, List.length_cons]
    have h1 := len_ite p g xs
    have h2 : (if p x = true then [g x] else []).length ≤ 1 := by split <;> simp
    omega
def goodR (hs : List Hd) (r : Rw) : Bool := r.ins.all nmB && r.callL.all (callB hs)
theorem sound_rows (hs : List Hd) (d : Df) : soundB hs d = ((Rw.eachs d.2.2).all (goodR hs) && (d.2.1.all nmB && decide d.2.1.Nodup)) := by
  unfold soundB namesL callsL goodR
  rw [List.all_append, List.all_flatMap, List.all_flatMap]
  rw [Bool.eq_iff_iff]
  simp only [Bool.and_eq_true, List.all_eq_true, decide_eq_true_eq]
  constructor
  · rintro ⟨⟨⟨a, b⟩, c⟩, d⟩
    exact ⟨fun r hr => ⟨a r hr, d r hr⟩, b, c⟩
  · rintro ⟨a, b, c⟩
    exact ⟨⟨⟨fun r hr => (a r hr).1, b⟩, c⟩, fun r hr => (a r hr).2⟩
def pbad (ps : List Str) (x : Str) : Bool := !nmB x || decide (1 < ps.count x)
theorem pars_ok (ps : List Str) : (ps.all fun x => !pbad ps x) = (ps.all nmB && decide ps.Nodup) := by
  rw [Bool.eq_iff_iff]
  simp only [Bool.and_eq_true, List.all_eq_true, decide_eq_true_eq, pbad, Bool.not_or, Bool.not_not, Bool.not_eq_true', decide_eq_false_iff_not]
  constructor
  · intro h
    refine ⟨fun x hx => (h x hx).1, List.nodup_iff_count.mpr fun x => ?_⟩
    by_cases hx : x ∈ ps
    · have := (h x hx).2; omega
    · rw [List.count_eq_zero_of_not_mem hx]; omega
  · rintro ⟨h1, h2⟩ x hx
    exact ⟨h1 x hx, by have := List.nodup_iff_count.mp h2 x; omega⟩
theorem faulty_wp {j l a : Nat} {ds : List Df} {d : Df} {S : Sto} {P : PV → Sto → Prop} {R : Str → PV → Sto → Prop} (hs : S[l]? = some (.lst (ds.map Df.pv))) (sp : SP j ds) (hj : j ≤ 10) (hd : ds[a]? = some d)
    (h : ∀ S', Keep [] S S' → P (.bl (!okB ds a d)) S') : wp (m__law_is_faulty [.loc l, .int (a : Nat)] S) P R := by
  have hdm : d ∈ ds := List.mem_of_getElem? hd
  have hal : a < ds.length := (List.getElem?_eq_some_iff.mp hd).1
  have hlen := sp.len
  have ga : atI (ds.map Df.pv) (a : Int) = some d.pv := by rw [PL.atI_get (by simp; omega), List.getElem?_map, hd]; rfl
  unfold m__law_is_faulty
  rw [callS_wp]
  simp [startE, hs, ga, -e_newK, -addP_loc, -e_lstO, -listP_ap, -slP_loc, -revP_loc, -e_dictM]
  simp only [Df.pv, e_gT, e_gsC, e_gN, e_gsN, List.length_cons, List.length_nil, if_true, Option.bind_some]
  simp [-e_newK, -addP_loc, -e_lstO, -listP_ap, -slP_loc, -revP_loc, -e_dictM]
  refine revA_wp hs ?_
  intro n1 S1 e1 k1 g1
  have lk1 := k1.1
  rw [← List.map_reverse] at e1
  obtain ⟨rd, hrd⟩ : ∃ rd, rd = ds.reverse := ⟨_, rfl⟩
  have hrl : rd.length = ds.length := by rw [hrd]; simp
  rw [← hrd] at e1
  simp [e1, -e_newK, -addP_loc, -e_lstO, -listP_ap, -slP_loc, -revP_loc, -e_dictM]
  refine accK_wp Df.pv (fun d => .tup [.str d.1, .tup (stL d.2.1)]) (fun S' k => by simp; (repeat' (first | assumption | refine Keep.get (by assumption) ?_ (by first | (simp; done) | (simp; omega))))) (by simp; omega) (fun e he acc S' J hl k hJ => ⟨[some (.loc l), some (.int a), none, none, some (.str d.1), some (.tup (stL d.2.1)), some (.tup (Rw.pvs d.2.2)), none, none, some (.str e.1), some (.tup (stL e.2.1)), some (.tup (Rw.pvs e.2.2))], by simp [Df.pv, wipeE], ?_⟩) ?_
  · rw [stepE_wp]
    simp [-e_newK, -addP_loc, -e_lstO, -listP_ap, -slP_loc, -revP_loc, -e_dictM]
    exact ⟨hl, hJ _ k⟩
  intro S2 k2
  refine new_wp ?_
  intro n3 S3 e3 k3 g3
  have lk3 := k3.1
  rw [List.nil_append] at e3
  simp [-e_newK, -addP_loc, -e_lstO, -listP_ap, -slP_loc, -revP_loc, -e_dictM]
  refine dictL_wp e3 (pairsP_map (fun d : Df => d.1) (fun d => .tup (stL d.2.1)) rd) ?_
  intro hn S4 e4 k4 g4
  have lk4 := k4.1
  rw [hrd] at e4
  have hval : ∀ f : Str, valP (mergeP [] (ds.reverse.map fun d => ((.inr d.1 : Key), PV.tup (stL d.2.1)))) (.inr f) = (firstH (ds.map Df.hd) f).map fun ps => .tup (stL ps) := by
    intro f
    rw [valP_merge_rev (fun d : Df => d.1) (fun d => .tup (stL d.2.1)) f ds []]
    unfold firstH
    rw [List.find?_map]
    have : ((fun h : Hd => decide (h.1 = f)) ∘ Df.hd) = fun d : Df => decide (d.1 = f) := rfl
    rw [this]
    cases ds.find? fun d => decide (d.1 = f) <;> simp [valP, Df.hd]
  generalize mergeP [] (ds.reverse.map fun d => ((.inr d.1 : Key), PV.tup (stL d.2.1))) = kvs at e4 hval
  have hs4 : S4[l]? = some (.lst (ds.map Df.pv)) := by (repeat' (first | assumption | refine Keep.get (by assumption) ?_ (by first | (simp; done) | (simp; omega))))
  have K4 : Keep [] S S4 := ((k1.trans k2).trans k3).trans k4
  have sm := sp.nm d hdm
  simp [-e_newK, -addP_loc, -e_lstO, -listP_ap, -slP_loc, -revP_loc, -e_dictM]
  refine law_name_wp (by have := sm.1.2; omega) sm.1.1 ?_
  intro S5 k5
  cases h1 : nmB d.1 with
  | false =>
    simp [-e_newK, -addP_loc, -e_lstO, -listP_ap, -slP_loc, -revP_loc, -e_dictM]
    have := h S5 (K4.trans k5)
    simpa [okB, h1] using this
  | true =>
    simp [-e_newK, -addP_loc, -e_lstO, -listP_ap, -slP_loc, -revP_loc, -e_dictM]
    refine slL_wp (by (repeat' (first | assumption | refine Keep.get (by assumption) ?_ (by first | (simp; done) | (simp; omega))))) ?_
    intro n6 S6 e6 k6 g6
    have lk6 := k6.1
    rw [cut_take, ← List.map_take] at e6
    have hta : (ds.take a).length ≤ 16 := by simp; omega
    obtain ⟨ta, hta0⟩ : ∃ ta, ta = ds.take a := ⟨_, rfl⟩
    rw [← hta0] at e6 hta
    simp [e6, -e_newK, -addP_loc, -e_lstO, -listP_ap, -slP_loc, -revP_loc, -e_dictM]
    refine accK_wp Df.pv (fun e => .str e.1) (fun S' k => by simp; (repeat' (first | assumption | refine Keep.get (by assumption) ?_ (by first | (simp; done) | (simp; omega))))) (by simp; omega) (fun e he acc S' J hl k hJ => ⟨_, rfl, ?_⟩) ?_
    · rw [stepE_wp]
      simp [wipeE, Df.pv, -e_newK, -addP_loc, -e_lstO, -listP_ap, -slP_loc, -revP_loc, -e_dictM]
      exact ⟨hl, hJ _ k⟩
    intro S7 k7
    refine new_wp ?_
    intro n8 S8 e8 k8 g8
    have lk8 := k8.1
    obtain ⟨tn, htn⟩ : ∃ tn, tn = (ds.take a).map (·.1) := ⟨_, rfl⟩
    have e8' : S8[n8]? = some (.lst (tn.map PV.str)) := by rw [e8, htn, hta0, List.map_map]; rfl
    have K8 : Keep [] S4 S8 := ((k5.trans k6).trans k7).trans k8
    simp [inB_strs e8', -e_newK, -addP_loc, -e_lstO, -listP_ap, -slP_loc, -revP_loc, -e_dictM]
    refine ⟨fun h2 => ?_, fun h2 => ?_⟩
    · have := h S8 (K4.trans K8)
      rw [htn] at h2
      have ok : okB ds a d = false := by
        unfold okB
        rw [decide_eq_false (fun z => z h2)]; simp
      rw [ok] at this
      exact this
    have okE : okB ds a d = soundB (ds.map Df.hd) d := by
      unfold okB
      rw [h1, ← htn, decide_eq_true h2]; simp
    have pl4 := sp.par d hdm
    have done : ∀ S' b, Keep [] S4 S' → soundB (ds.map Df.hd) d = !b → P (.bl b) S' := fun S' b k e => by
      have := h S' (K4.trans k)
      rw [okE, e] at this
      simpa using this
    refine accF_wp PV.str (fun x => if pbad d.2.1 x = true then [PV.str x] else []) (by simp) (by have := len_ite (pbad d.2.1) PV.str d.2.1; simp only [List.length_nil]; omega) (fun x hx acc S' J hl k hJ => ⟨_, rfl, ?_⟩) ?_
    · have hx9 := sm.2.1 x hx
      rw [stepE_wp]
      simp [wipeE, -e_newK, -addP_loc, -e_lstO, -listP_ap, -slP_loc, -revP_loc, -e_dictM]
      refine law_name_wp (by have := hx9.2; omega) hx9.1 ?_
      intro S9 k9
      have hJ := hJ S9 (k.trans k9)
      cases hn : nmB x with
      | false =>
        simp [pbad, hn] at hJ hl
        simp [-e_newK, -addP_loc, -e_lstO, -listP_ap, -slP_loc, -revP_loc, -e_dictM]
        exact ⟨by omega, hJ⟩
      | true =>
        by_cases hc : 1 < d.2.1.count x
        · simp [pbad, hn, hc] at hJ hl
          simp [tcount_strs, -e_newK, -addP_loc, -e_lstO, -listP_ap, -slP_loc, -revP_loc, -e_dictM]
          exact ⟨fun _ => ⟨by omega, hJ⟩, fun z => by omega⟩
        · simp [pbad, hn, hc] at hJ
          simp [tcount_strs, -e_newK, -addP_loc, -e_lstO, -listP_ap, -slP_loc, -revP_loc, -e_dictM]
          exact ⟨fun z => by omega, fun _ => hJ⟩
    intro S9 k9
    refine new_wp ?_
    intro n10 S10 e10 k10 g10
    have lk10 := k10.1
    simp [-e_newK, -addP_loc, -e_lstO, -listP_ap, -slP_loc, -revP_loc, -e_dictM]
    refine lst_wp (by simp) ?_
    intro n11 S11 e11 k11 g11
    have lk11 := k11.1
    have hb := eqB_lnil (n := 0) (S := S11) (by decide) (k11.get e10 (by simp)) e11 (fun p hp => by
      left
      simp only [List.nil_append] at hp
      obtain ⟨c, hc, hp⟩ := List.mem_flatMap.mp hp
      split at hp
      · simp at hp; subst hp; exact (sm.2.1 c hc).1.pl 0
      · simp at hp)
    rw [List.nil_append, flatMap_ite, pars_ok] at hb
    have K11 : Keep [] S4 S11 := ((K8.trans k9).trans k10).trans k11
    cases hpar : (d.2.1.all nmB && decide d.2.1.Nodup) with
    | false =>
      rw [hpar] at hb
      simp [hb, -e_newK, -addP_loc, -e_lstO, -listP_ap, -slP_loc, -revP_loc, -e_dictM]
      exact done S11 true K11 (by rw [sound_rows, hpar]; simp)
    | true =>
    rw [hpar] at hb
    simp [hb, -e_newK, -addP_loc, -e_lstO, -listP_ap, -slP_loc, -revP_loc, -e_dictM]
    refine law_each_wp (sp.fair d hdm).2.2 (by have := sp.dep d hdm; omega) (by have := sp.cnt d hdm; omega) ?_
    intro n12 S12 e12 k12 g12
    have lk12 := k12.1
    have K12 : Keep [] S4 S12 := K11.trans k12
    rw [pvs_map] at e12
    simp [e12, -e_newK, -addP_loc, -e_lstO, -listP_ap, -slP_loc, -revP_loc, -e_dictM]
    refine forM_wp Rw.pv (fun dn τ S' => (∃ x3 x7 x8 x9 x10 x11, τ = [some (.loc l), some (.int a), some (.loc hn), x3, some (.str d.1), some (.tup (stL d.2.1)), some (.tup (Rw.pvs d.2.2)), x7, x8, x9, x10, x11]) ∧ Keep [] S12 S' ∧ dn.all (goodR (ds.map Df.hd)) = true) ⟨⟨_, _, _, _, _, _, rfl⟩, .refl, rfl⟩ ?_ ?_
    · rintro dn r rs τ S13 J heq ⟨⟨x3, x7, x8, x9, x10, x11, rfl⟩, k13, hg⟩ hJ
      have hr : r ∈ Rw.eachs d.2.2 := by rw [heq]; simp
      have bad : goodR (ds.map Df.hd) r = false → ∀ S', Keep [] S4 S' → P (.bl true) S' := fun z S' k => done S' true k (by
        rw [sound_rows, heq]
        simp [z])
      have hri := sp.ins d hdm r hr
      have hrs := ins_All (eachs_All _ sm.2.2 r hr)
      refine ⟨by simp; exact k13.get e12 (by simp), _, rfl, ?_⟩
      simp [-e_newK, -addP_loc, -e_lstO, -listP_ap, -slP_loc, -revP_loc, -e_dictM]
      refine in_row_wp (by omega) ?_
      intro n14 f14 c14 S14 q1 q2 q3 k14
      have h14 : S14[hn]? = some (.dct kvs) := by
        have h12 : S12[hn]? = some (.dct kvs) := K12.get e4 (by simp)
        exact k14.get (k13.get h12 (by simp)) (by simp)
      have K14 : Keep [] S4 S14 := (K12.trans k13).trans k14
      have h2l : (ins2 r).length ≤ 100 := by cases r <;> simp [ins2, Rw.ins] at hri ⊢ <;> omega
      simp [q1, -e_newK, -addP_loc, -e_lstO, -listP_ap, -slP_loc, -revP_loc, -e_dictM]
      simp [q2, -e_newK, -addP_loc, -e_lstO, -listP_ap, -slP_loc, -revP_loc, -e_dictM]
      refine accF_wp PV.str (fun x => if (!nmB x) = true then [PV.str x] else []) (fun S' k => by simp; exact k.get q2 (by simp)) (by have := len_ite (fun x => !nmB x) PV.str (ins2 r); simp only [List.length_nil]; omega) (fun x hx acc S' J hl k hJ => ⟨_, rfl, ?_⟩) ?_
      · have hx9 := hrs x (mem_ins2.mp hx)
        rw [stepE_wp]
        simp [wipeE, -e_newK, -addP_loc, -e_lstO, -listP_ap, -slP_loc, -revP_loc, -e_dictM]
        refine law_name_wp (by have := hx9.2; omega) hx9.1 ?_
        intro S15 k15
        have hJ := hJ S15 (k.trans k15)
        cases hnx : nmB x with
        | false =>
          simp [hnx] at hJ hl
          simp [-e_newK, -addP_loc, -e_lstO, -listP_ap, -slP_loc, -revP_loc, -e_dictM]
          exact ⟨by omega, hJ⟩
        | true =>
          simp [hnx] at hJ
          simp [-e_newK, -addP_loc, -e_lstO, -listP_ap, -slP_loc, -revP_loc, -e_dictM]
          exact hJ
      intro S15 k15
      refine new_wp ?_
      intro n16 S16 e16 k16 g16
      have lk16 := k16.1
      simp [-e_newK, -addP_loc, -e_lstO, -listP_ap, -slP_loc, -revP_loc, -e_dictM]
      refine lst_wp (by simp) ?_
      intro n17 S17 e17 k17 g17
      have lk17 := k17.1
      have hb2 := eqB_lnil (n := 0) (S := S17) (by decide) (k17.get e16 (by simp)) e17 (fun p hp => by
        left
        simp only [List.nil_append] at hp
        obtain ⟨c, hc, hp⟩ := List.mem_flatMap.mp hp
        split at hp
        · simp at hp; subst hp; exact (hrs c (mem_ins2.mp hc)).1.pl 0
        · simp at hp)
      rw [List.nil_append, flatMap_ite] at hb2
      have i2 : ((ins2 r).all fun x => !!nmB x) = r.ins.all nmB := by
        rw [Bool.eq_iff_iff]
        simp only [List.all_eq_true, Bool.not_not]
        exact ⟨fun z x hx => z x (mem_ins2.mpr hx), fun z x hx => z x (mem_ins2.mp hx)⟩
      rw [i2] at hb2
      have K17 : Keep [] S4 S17 := ((K14.trans k15).trans k16).trans k17
      cases hrn : r.ins.all nmB with
      | false =>
        rw [hrn] at hb2
        simp [hb2, -e_newK, -addP_loc, -e_lstO, -listP_ap, -slP_loc, -revP_loc, -e_dictM]
        exact bad (by simp [goodR, hrn]) S17 K17
      | true =>
      rw [hrn] at hb2
      simp [hb2, -e_newK, -addP_loc, -e_lstO, -listP_ap, -slP_loc, -revP_loc, -e_dictM]
      have q37 : S17[c14]? = some (.lst (r.callL.map callV)) := k17.get (k16.get (k15.get q3 (by simp)) (by simp)) (by simp)
      have h17 : S17[hn]? = some (.dct kvs) := k17.get (k16.get (k15.get h14 (by simp)) (by simp)) (by simp)
      have hcl : r.callL.length ≤ 1 := by
        rcases callL_some (r := r) with ⟨_, z⟩ | ⟨c, _, z⟩ <;> rw [z] <;> simp
      have hca := callL_All (eachs_All _ sm.2.2 r hr)
      simp [q37, -e_newK, -addP_loc, -e_lstO, -listP_ap, -slP_loc, -revP_loc, -e_dictM]
      refine accF_wp callV (fun c => if (!callB (ds.map Df.hd) c) = true then [callV c] else []) (fun S' k => by simp; exact k.get q37 (by simp)) (by have := len_ite (fun c => !callB (ds.map Df.hd) c) callV r.callL; simp only [List.length_nil]; omega) (fun c hc acc S' J hl k hJ => ⟨_, rfl, ?_⟩) ?_
      · have hJ := hJ S' k
        have hd' : S'[hn]? = some (.dct kvs) := k.get h17 (by simp)
        rw [stepE_wp]
        cases hf : firstH (ds.map Df.hd) c.1 with
        | none =>
          have hcb : callB (ds.map Df.hd) c = false := by simp [callB, hf]
          have hv := hval c.1
          rw [hf] at hv
          simp [hcb] at hJ hl
          simp [wipeE, callV, inB, hd', keyP, hv, -e_newK, -addP_loc, -e_lstO, -listP_ap, -slP_loc, -revP_loc, -e_dictM]
          exact ⟨by omega, hJ⟩
        | some ps =>
          have hv := hval c.1
          rw [hf] at hv
          by_cases he : ps.length = c.2.length
          · have hcb : callB (ds.map Df.hd) c = true := by simp [callB, hf, he]
            simp [hcb] at hJ
            simp [wipeE, callV, inB, hd', keyP, hv, stL, he, -e_newK, -addP_loc, -e_lstO, -listP_ap, -slP_loc, -revP_loc, -e_dictM]
            exact hJ
          · have hcb : callB (ds.map Df.hd) c = false := by simp [callB, hf, he]
            simp [hcb] at hJ hl
            simp [wipeE, callV, inB, hd', keyP, hv, stL, -e_newK, -addP_loc, -e_lstO, -listP_ap, -slP_loc, -revP_loc, -e_dictM]
            simp [callV, stL] at hJ
            exact ⟨fun z => absurd (by omega) he, fun _ => ⟨by omega, hJ⟩⟩
      intro S18 k18
      refine new_wp ?_
      intro n19 S19 e19 k19 g19
      have lk19 := k19.1
      simp [-e_newK, -addP_loc, -e_lstO, -listP_ap, -slP_loc, -revP_loc, -e_dictM]
      refine lst_wp (by simp) ?_
      intro n20 S20 e20 k20 g20
      have lk20 := k20.1
      have hb3 := eqB_lnil (n := 3) (S := S20) (by decide) (k20.get e19 (by simp)) e20 (fun p hp => by
        left
        simp only [List.nil_append] at hp
        obtain ⟨c, hc, hp⟩ := List.mem_flatMap.mp hp
        split at hp
        · simp at hp; subst hp
          have := hca c hc
          have hx : PlL 1 (stL c.2) := fairL fun x hx => (this.2 x hx).1
          simp only [callV, Pl, PlL]
          exact ⟨(ofS_fair "call"), this.1.1, hx, trivial⟩
        · simp at hp)
      rw [List.nil_append, flatMap_ite] at hb3
      have i3 : (r.callL.all fun c => !!callB (ds.map Df.hd) c) = r.callL.all (callB (ds.map Df.hd)) := by simp
      rw [i3] at hb3
      cases hrc : r.callL.all (callB (ds.map Df.hd)) with
      | false =>
        rw [hrc] at hb3
        simp [hb3, -e_newK, -addP_loc, -e_lstO, -listP_ap, -slP_loc, -revP_loc, -e_dictM]
        exact bad (by simp [goodR, hrc]) S20 (((K17.trans k18).trans k19).trans k20)
      | true =>
      rw [hrc] at hb3
      simp [hb3, -e_newK, -addP_loc, -e_lstO, -listP_ap, -slP_loc, -revP_loc, -e_dictM]
      exact hJ _ _ ⟨⟨_, _, _, _, _, _, rfl⟩, (((((((k13.trans k14).trans k15).trans k16).trans k17).trans k18).trans k19).trans k20), by rw [List.all_append, hg]; simp [goodR, hrn, hrc]⟩
    · rintro τ S13 ⟨⟨x3, x7, x8, x9, x10, x11, rfl⟩, k13, hg⟩
      refine ⟨by simp; exact k13.get e12 (by simp), ?_⟩
      simp [-e_newK, -addP_loc, -e_lstO, -listP_ap, -slP_loc, -revP_loc, -e_dictM]
      exact done S13 false (K12.trans k13) (by rw [sound_rows, hg, hpar]; rfl)
end K02
namespace K02
open PySem PySem.Spec PyProof.Rows L2 PL
def faultF (ds : List Df) (i : Nat) : List PV := match ds[i]? with | some d => if okB ds i d = true then [] else [.str d.1] | none => []
theorem faults_suffix (ds : List Df) : ∀ (rest pre : List Df), ds = pre ++ rest → ∃ more, ((List.range' pre.length rest.length).flatMap (faultF ds)) = (match faultAt (ds.map Df.hd) (pre.map (·.1)) rest with | some x => .str x :: more | none => [])
  | [], pre, _ => ⟨[], rfl⟩
  | d :: rest, pre, e => by
    obtain ⟨more, ih⟩ := faults_suffix ds rest (pre ++ [d]) (by rw [e]; simp)
    have hd : ds[pre.length]? = some d := by rw [e]; simp
    have ht : ds.take pre.length = pre := by rw [e]; simp
    rw [List.length_cons, List.range'_succ, List.flatMap_cons, faultAt_cons]
    have hl : (pre ++ [d]).length = pre.length + 1 := by simp
    rw [hl] at ih
    have hm : (pre ++ [d]).map (·.1) = pre.map (·.1) ++ [d.1] := by simp
    rw [hm] at ih
    by_cases hok : nmB d.1 = true ∧ d.1 ∉ pre.map (·.1) ∧ soundB (ds.map Df.hd) d = true
    · rw [if_pos hok, ih]
      have : faultF ds pre.length = [] := by
        unfold faultF
        rw [hd]
        simp only [okB, ht]
        rw [hok.1, decide_eq_true hok.2.1, hok.2.2]
        rfl
      rw [this]
      exact ⟨more, rfl⟩
    · rw [if_neg hok]
      have : faultF ds pre.length = [.str d.1] := by
        unfold faultF
        rw [hd]
        simp only [okB, ht]
        rw [if_neg]
        intro z
        simp only [Bool.and_eq_true, decide_eq_true_eq] at z
        exact hok ⟨z.1.1, z.1.2, z.2⟩
      rw [this]
      exact ⟨_, rfl⟩
theorem faults_all (ds : List Df) : ∃ more, ((List.range ds.length).flatMap (faultF ds)) = (match faultAt (ds.map Df.hd) [] ds with | some x => .str x :: more | none => []) := by
  have := faults_suffix ds ds [] rfl
  simpa [List.range_eq_range'] using this
theorem fault_none_nodup {hs : List Hd} : ∀ (ds : List Df) (met : List Str), met.Nodup → faultAt hs met ds = none → (met ++ ds.map (·.1)).Nodup
  | [], met, h, _ => by simpa using h
  | d :: ds, met, h, e => by
    rw [faultAt_cons] at e
    split at e
    · rename_i hok
      have := fault_none_nodup ds (met ++ [d.1]) (by
        rw [List.nodup_append]
        exact ⟨h, by simp, fun a ha b hb => by simp at hb; subst hb; exact fun z => hok.2.1 (z ▸ ha)⟩) e
      simpa using this
    · cases e
theorem faultF_len (ds : List Df) (i : Nat) : (faultF ds i).length ≤ 1 := by
  unfold faultF
  cases ds[i]? with
  | none => simp
  | some d => simp only; split <;> simp
def dueL (ds : List Df) : List PV := match dueOf ds with | none => [] | some w => [w]
theorem rngI_nat (n : Nat) : rngI 0 (n : Int) = (List.range n).map fun i : Nat => PV.int (i : Int) := by
  unfold rngI
  simp
def isMain (d : Df) : Bool := decide (d.1 = Str.ofString "main") && d.2.1.isEmpty
theorem main_eq {d : Df} (hf : Fair d.1) (hp : ∀ x ∈ d.2.1, Fair x) (S : Sto) : eqB (.tup [.str d.1, .tup (stL d.2.1)]) (.tup [.str (Str.ofString "main"), .tup []]) S = some (isMain d) := by
  obtain ⟨b, h1, h2⟩ := eqB_plain (S := S) (n := 3) (by decide) (p := .tup [.str d.1, .tup (stL d.2.1)]) (q := .tup [.str (Str.ofString "main"), .tup []]) (by
    have : PlL 1 (stL d.2.1) := fairL hp
    simp only [Pl, PlL]
    exact ⟨hf, this, trivial⟩) (by
    simp only [Pl, PlL]
    exact ⟨ofS_fair "main", trivial, trivial⟩)
  rw [h1]
  congr 1
  rw [Bool.eq_iff_iff, h2]
  unfold isMain
  simp only [PV.tup.injEq, List.cons.injEq, PV.str.injEq, and_true, Bool.and_eq_true, decide_eq_true_eq, List.isEmpty_iff]
  constructor
  · rintro ⟨a, b⟩
    refine ⟨a, ?_⟩
    cases hd : d.2.1 with
    | nil => rfl
    | cons x xs => rw [hd] at b; simp [stL] at b
  · rintro ⟨a, b⟩
    exact ⟨a, by rw [b]; rfl⟩
theorem main_first {ds : List Df} (nd : ((ds.map Df.hd).map (·.1)).Nodup) : (firstH (ds.map Df.hd) (Str.ofString "main") = some []) ↔ (ds.all fun d => !isMain d) = false := by
  constructor
  · intro h
    unfold firstH at h
    cases hf : (ds.map Df.hd).find? fun h => decide (h.1 = Str.ofString "main") with
    | none => rw [hf] at h; cases h
    | some x =>
      rw [hf] at h
      have hx := List.mem_of_find?_eq_some hf
      have hx1 : x.1 = Str.ofString "main" := by simpa using List.find?_some hf
      obtain ⟨d, hd, e⟩ := List.mem_map.mp hx
      have hx2 : x.2 = [] := by simpa using h
      rw [List.all_eq_false]
      refine ⟨d, hd, ?_⟩
      have h1 : d.1 = Str.ofString "main" := by rw [← hx1, ← e]; rfl
      have h2 : d.2.1 = [] := by rw [← hx2, ← e]; rfl
      simp [isMain, h1, h2]
  · intro h
    rw [List.all_eq_false] at h
    obtain ⟨d, hd, h⟩ := h
    have h : isMain d = true := by simpa using h
    unfold isMain at h
    simp only [Bool.and_eq_true, decide_eq_true_eq, List.isEmpty_iff] at h
    exact firstH_mem nd (List.mem_map.mpr ⟨d, hd, by show (d.1, d.2.1) = _; rw [h.1, h.2]⟩)
theorem due_wp {j l : Nat} {ds : List Df} {S : Sto} {P : PV → Sto → Prop} {R : Str → PV → Sto → Prop} (hs : S[l]? = some (.lst (ds.map Df.pv))) (sp : SP j ds) (hj : j ≤ 10)
    (h : ∀ n S', S'[n]? = some (.lst (dueL ds)) → Keep [] S S' → S.length ≤ n → P (.loc n) S') : wp (m__law_due [.loc l] S) P R := by
  have hlen := sp.len
  unfold m__law_due
  rw [callS_wp]
  simp [startE, hs, -e_newK, -addP_loc, -e_lstO, -listP_ap, -slP_loc, -revP_loc, -e_dictM]
  refine ⟨by unfold rngOk; omega, ?_⟩
  rw [rngI_nat]
  refine accF_wp (fun i : Nat => PV.int (i : Int)) (faultF ds) (by simp) (by
    have := len_flatMap_le (xs := List.range ds.length) (f := faultF ds) (c := 1) (fun i _ => faultF_len ds i)
    simp only [List.length_range] at this
    simp only [List.length_nil]; omega) (fun i hi acc S' J hl k hJ => ⟨_, rfl, ?_⟩) ?_
  · have hil : i < ds.length := List.mem_range.mp hi
    obtain ⟨d, hd⟩ : ∃ d, ds[i]? = some d := ⟨_, List.getElem?_eq_getElem hil⟩
    have hs' : S'[l]? = some (.lst (ds.map Df.pv)) := k.get hs (by simp)
    have ga : atI (ds.map Df.pv) (i : Int) = some d.pv := by rw [PL.atI_get (by simp; omega), List.getElem?_map, hd]; rfl
    rw [stepE_wp]
    simp [wipeE, -e_newK, -addP_loc, -e_lstO, -listP_ap, -slP_loc, -revP_loc, -e_dictM]
    refine faulty_wp hs' sp hj hd ?_
    intro S2 k2
    have hJ := hJ S2 (k.trans k2)
    have hs2 := k2.get hs' (by simp)
    cases hok : okB ds i d with
    | true =>
      simp [faultF, hd, hok] at hJ
      simp [-e_newK, -addP_loc, -e_lstO, -listP_ap, -slP_loc, -revP_loc, -e_dictM]
      exact hJ
    | false =>
      simp [faultF, hd, hok] at hJ hl
      simp [hs2, ga, Df.pv, -e_newK, -addP_loc, -e_lstO, -listP_ap, -slP_loc, -revP_loc, -e_dictM]
      exact ⟨by omega, hJ⟩
  intro S2 k2
  refine new_wp ?_
  intro n3 S3 e3 k3 g3
  have lk3 := k3.1
  rw [List.nil_append] at e3
  simp [-e_newK, -addP_loc, -e_lstO, -listP_ap, -slP_loc, -revP_loc, -e_dictM]
  refine lst_wp (by simp) ?_
  intro n4 S4 e4 k4 g4
  have lk4 := k4.1
  obtain ⟨more, hm⟩ := faults_all ds
  have hp1 : ∀ p ∈ (List.range ds.length).flatMap (faultF ds), PlB 0 p := fun p hp => by
    left
    obtain ⟨i, hi, hp⟩ := List.mem_flatMap.mp hp
    unfold faultF at hp
    split at hp
    · rename_i d hd
      split at hp
      · simp at hp
      · simp at hp; subst hp; exact (sp.nm d (List.mem_of_getElem? hd)).1.1.pl 0
    · simp at hp
  have hb := eqB_lnil (n := 0) (S := S4) (by decide) (k4.get e3 (by simp)) e4 hp1
  cases hf : faultAt (ds.map Df.hd) [] ds with
  | some x =>
    rw [hf] at hm
    rw [hm] at e3 hb
    simp [hb, -e_newK, -addP_loc, -e_lstO, -listP_ap, -slP_loc, -revP_loc, -e_dictM]
    refine slL_wp (k4.get e3 (by simp)) ?_
    intro n5 S5 e5 k5 g5
    have lk5 := k5.1
    have c1 : ∀ l : List PV, cutP l none (some 1) = l.take 1 := fun l => cut_take 1
    rw [c1] at e5
    simp
    exact h n5 S5 (by simpa [dueL, dueOf, hf] using e5) (((k2.trans k3).trans k4).trans k5) (by have := k2.1; omega)
  | none =>
    rw [hf] at hm
    rw [hm] at e3 hb
    have nd : ((ds.map Df.hd).map (·.1)).Nodup := by
      have := fault_none_nodup ds [] (by simp) hf
      have t : (ds.map (·.1)).Nodup := by simpa using this
      rw [List.map_map]
      exact t
    have hs4 : S4[l]? = some (.lst (ds.map Df.pv)) := k4.get (k3.get (k2.get hs (by simp)) (by simp)) (by simp)
    simp [hb, hs4, -e_newK, -addP_loc, -e_lstO, -listP_ap, -slP_loc, -revP_loc, -e_dictM]
    have K4 : Keep [] S S4 := (k2.trans k3).trans k4
    have c2 : ∀ l : List PV, cutP l none (some 2) = l.take 2 := fun l => cut_take 2
    refine accF_wp Df.pv (fun d => if isMain d = true then [d.pv] else []) (fun S' k => by simp; exact k.get hs4 (by simp)) (by have := len_ite isMain Df.pv ds; simp only [List.length_nil]; omega) (fun d hd acc S' J hl k hJ => ⟨_, rfl, ?_⟩) ?_
    · have hJ := hJ S' k
      have hm := main_eq (sp.nm d hd).1.1 (fun x hx => ((sp.nm d hd).2.1 x hx).1) S'
      rw [stepE_wp]
      cases hi : isMain d with
      | true =>
        rw [hi] at hm
        simp [hi] at hJ hl
        simp [wipeE, Df.pv, c2, hm, -e_newK, -addP_loc, -e_lstO, -listP_ap, -slP_loc, -revP_loc, -e_dictM]
        exact ⟨by omega, by simpa [Df.pv] using hJ⟩
      | false =>
        rw [hi] at hm
        simp [hi] at hJ
        simp [wipeE, Df.pv, c2, hm, -e_newK, -addP_loc, -e_lstO, -listP_ap, -slP_loc, -revP_loc, -e_dictM]
        exact hJ
    intro S5 k5
    refine new_wp ?_
    intro n6 S6 e6 k6 g6
    have lk6 := k6.1
    rw [List.nil_append] at e6
    simp [-e_newK, -addP_loc, -e_lstO, -listP_ap, -slP_loc, -revP_loc, -e_dictM]
    refine lst_wp (by simp) ?_
    intro n7 S7 e7 k7 g7
    have lk7 := k7.1
    have hb2 := eqB_lnil (n := 20) (S := S7) (by decide) (k7.get e6 (by simp)) e7 (fun p hp => by
      left
      obtain ⟨d, hd, hp⟩ := List.mem_flatMap.mp hp
      split at hp
      · simp at hp; subst hp; exact PlL_iff.mp sp.pl d.pv (List.mem_map.mpr ⟨d, hd, rfl⟩)
      · simp at hp)
    rw [flatMap_ite] at hb2
    have K7 : Keep [] S S7 := ((K4.trans k5).trans k6).trans k7
    cases hall : ds.all fun d => !isMain d with
    | false =>
      rw [hall] at hb2
      have hm := (main_first nd).mpr hall
      simp [hb2, -e_newK, -addP_loc, -e_lstO, -listP_ap, -slP_loc, -revP_loc, -e_dictM]
      refine lst_wp (by simp) ?_
      intro n8 S8 e8 k8 g8
      have lk8 := k8.1
      simp
      exact h n8 S8 (by simpa [dueL, dueOf, hf, hm] using e8) (K7.trans k8) (by have := K7.1; omega)
    | true =>
      rw [hall] at hb2
      have hm : ¬ firstH (ds.map Df.hd) (Str.ofString "main") = some [] := fun z => by
        have := (main_first nd).mp z
        rw [hall] at this; cases this
      simp [hb2, -e_newK, -addP_loc, -e_lstO, -listP_ap, -slP_loc, -revP_loc, -e_dictM]
      refine lst_wp (by simp) ?_
      intro n8 S8 e8 k8 g8
      have lk8 := k8.1
      simp
      exact h n8 S8 (by simpa [dueL, dueOf, hf, hm] using e8) (K7.trans k8) (by have := K7.1; omega)
end K02
namespace K02
open PySem PySem.Spec PyProof.Rows L2 PL
def odds : List Str := ["", "abcdefghi", "Abc", "a1", "a b", "b-", "main", "mains", "A"]
theorem odds_sm : ∀ x ∈ odds, Sm x := by
  intro x hx
  simp only [odds, List.mem_cons, List.not_mem_nil, or_false] at hx
  rcases hx with rfl | rfl | rfl | rfl | rfl | rfl | rfl | rfl | rfl <;> exact ⟨ofS_fair _, by decide +kernel⟩
theorem bad_name_wp {t g B nl : Nat} {ns : List Str} {S : Sto} {P : PV → Sto → Prop} {R : Str → PV → Sto → Prop} (T : Tray t g B S) (hB : B < 200000000000) (hn : S[nl]? = some (.lst (stL ns))) (hns : ∀ x ∈ ns, Sm x) (hl : ns.length ≤ 100)
    (h : ∀ x S', Sm x → Tray t g (B + 1) S' → Keep [t, g] S S' → P (.str x) S') : wp (m__law_bad_name [.loc t, .loc nl] S) P R := by
  unfold m__law_bad_name
  rw [callS_wp]
  simp [startE, -e_newK, -addP_loc, -e_lstO, -listP_ap, -slP_loc, -revP_loc, -e_dictM]
  refine lst_wp (by simp) ?_
  intro n1 S1 e1 k1 g1
  have lk1 := k1.1
  simp [-e_newK, -addP_loc, -e_lstO, -listP_ap, -slP_loc, -revP_loc, -e_dictM]
  refine addL_wp e1 (k1.get hn (by simp)) (by simp [stL]; omega) ?_
  intro n2 S2 e2 k2 g2
  have lk2 := k2.1
  obtain ⟨os, hos⟩ : ∃ os, os = odds ++ ns := ⟨_, rfl⟩
  have hol : os.length = 9 + ns.length := by rw [hos]; simp [odds]; omega
  have e2 : S2[n2]? = some (.lst (os.map PV.str)) := by rw [e2, hos]; simp [odds, stL]
  have hn2 : S2[nl]? = some (.lst (stL ns)) := k2.get (k1.get hn (by simp)) (by simp)
  have hll : (stL ns).length = ns.length := by simp [stL]
  simp [hn2, hll, -e_newK, -addP_loc, -e_lstO, -listP_ap, -slP_loc, -revP_loc, -e_dictM]
  have T2 := (T.keep k1 (by simp) (by simp)).keep k2 (by simp) (by simp)
  refine draw_wp T2 (by omega) (by omega) (by omega) ?_
  intro w S3 w0 w1 T3 k3
  have ltT := T.lt
  have e3 := k3.get e2 (by simp; omega)
  obtain ⟨i, rfl⟩ : ∃ i : Nat, w = (i : Int) := ⟨w.toNat, by omega⟩
  have hil : i < os.length := by omega
  have hx := List.getElem?_eq_getElem hil
  have ga : atI (os.map PV.str) (i : Int) = some (.str os[i]) := by rw [PL.atI_get (by simp; omega), List.getElem?_map, hx]; rfl
  simp [e3, ga, -e_newK, -addP_loc, -e_lstO, -listP_ap, -slP_loc, -revP_loc, -e_dictM]
  refine h _ S3 ?_ T3 (((k1.trans k2).mono (by simp)).trans k3)
  have := List.getElem_mem hil
  generalize os[i] = y at this
  rw [hos] at this
  rcases List.mem_append.mp this with z | z
  · exact odds_sm _ z
  · exact hns _ z
/-- what a spoilt row keeps -/
structure SpR (m : Nat) (r r' : Rw) : Prop where
  nm : r'.All Sm
  cnt : r'.each.length = r.each.length
  dep : r'.dep = r.dep
  ins : (∀ q ∈ r.each, q.ins.length ≤ m) → ∀ q ∈ r'.each, q.ins.length ≤ m + 1
  iff_ : ∀ x a b, r = .iff x a b → ∃ y, r' = .iff y a b
  back : ∀ y a b, r' = .iff y a b → ∃ x, r = .iff x a b
theorem cc_wp {w : Str} {b : Bool} (hb : decide (w ∈ [Str.ofString "copy", Str.ofString "clean"]) = b) {S : Sto} {P : PV → Sto → Prop} {R : Str → PV → Sto → Prop} (h : ∀ n S', Keep [] S S' → inB (.str w) (.loc n) S' = some b → P (.loc n) S') : wp (lstO [.str (Str.ofString "copy"), .str (Str.ofString "clean")] S) P R := by
  refine lst_wp (by simp) ?_
  intro n1 S1 e1 k1 g1
  have lk1 := k1.1
  refine h n1 S1 k1 ?_
  rw [← hb]
  exact inB_strs (ys := [Str.ofString "copy", Str.ofString "clean"]) e1
theorem row_spoilt_wp {t g B nl m : Nat} {ns : List Str} {r : Rw} {S : Sto} {P : PV → Sto → Prop} {R : Str → PV → Sto → Prop} (T : Tray t g B S) (hB : B < 150000000000) (hn : S[nl]? = some (.lst (stL ns))) (hns : ∀ x ∈ ns, Sm x) (hl : ns.length ≤ 100) (hne : nl ≠ t ∧ nl ≠ g)
    (hr : r.All Sm) (hm : 2 ≤ m) (hil : r.ins.length ≤ 1000)
    (h : ∀ (r' : Rw) S', SpR m r r' → Tray t g (B + 3) S' → Keep [t, g] S S' → P r'.pv S') : wp (m__law_row_spoilt [.loc t, r.pv, .loc nl] S) P R := by
  unfold m__law_row_spoilt
  rw [callS_wp]
  have c1 : ∀ l : List PV, cutP l none (some 1) = l.take 1 := fun l => cut_take 1
  have c2 : ∀ l : List PV, cutP l (some 2) none = l.drop 2 := fun l => cut_drop 2
  cases r with
  | iff x a b =>
    simp [startE, Rw.pv, c1, c2, -e_newK, -addP_loc, -e_lstO, -listP_ap, -slP_loc, -revP_loc, -e_dictM]
    refine bad_name_wp T (by omega) hn hns hl ?_
    intro y S1 hy T1 k1
    simp [c2, -e_newK, -addP_loc, -e_lstO, -listP_ap, -slP_loc, -revP_loc, -e_dictM]
    refine h (.iff y a b) S1 ⟨⟨hy, hr.2⟩, by simp [Rw.each], by simp [Rw.dep], fun z q hq => ?_, fun x' a' b' e => by cases e; exact ⟨y, rfl⟩, fun x' a' b' e => by cases e; exact ⟨x, rfl⟩⟩ (T1.up (by omega)) k1
    rw [Rw.each] at hq
    rcases List.mem_cons.mp hq with rfl | hq
    · simp [Rw.ins]; omega
    · have := z q (by rw [Rw.each]; exact List.mem_cons_of_mem _ hq); omega
  | send x =>
    simp [startE, Rw.pv, c1, c2, -e_newK, -addP_loc, -e_lstO, -listP_ap, -slP_loc, -revP_loc, -e_dictM]
    refine bad_name_wp T (by omega) hn hns hl ?_
    intro y S1 hy T1 k1
    simp [c2, -e_newK, -addP_loc, -e_lstO, -listP_ap, -slP_loc, -revP_loc, -e_dictM]
    exact h (.send y) S1 ⟨hy, by simp [Rw.each], by simp [Rw.dep], fun z q hq => by simp [Rw.each] at hq; subst hq; simp [Rw.ins]; omega, fun x' a' b' e => (by cases e), fun x' a' b' e => (by cases e)⟩ (T1.up (by omega)) k1
  | give x =>
    simp [startE, Rw.pv, c1, c2, -e_newK, -addP_loc, -e_lstO, -listP_ap, -slP_loc, -revP_loc, -e_dictM]
    refine bad_name_wp T (by omega) hn hns hl ?_
    intro y S1 hy T1 k1
    simp [c2, -e_newK, -addP_loc, -e_lstO, -listP_ap, -slP_loc, -revP_loc, -e_dictM]
    exact h (.give y) S1 ⟨hy, by simp [Rw.each], by simp [Rw.dep], fun z q hq => by simp [Rw.each] at hq; subst hq; simp [Rw.ins]; omega, fun x' a' b' e => (by cases e), fun x' a' b' e => (by cases e)⟩ (T1.up (by omega)) k1
  | set x v =>
    have mk : ∀ (y : Str) (v' : Vl), Sm y → v'.All Sm → v'.asked.length ≤ v.asked.length + 1 → SpR m (.set x v) (.set y v') := fun y v' hy hv ha => ⟨⟨hy, hv⟩, by simp [Rw.each], by simp [Rw.dep], fun z q hq => by
        simp [Rw.each] at hq; subst hq
        have := z (.set x v) (by simp [Rw.each])
        simp [Rw.ins] at this ⊢; omega, fun x' a' b' e => (by cases e), fun x' a' b' e => (by cases e)⟩
    have last : ∀ (S1 : Sto) (b : Nat) (Q : PV → Sto → Prop) (R1 : Str → PV → Sto → Prop), Tray t g b S1 → b ≤ B + 2 → Keep [t, g] S S1 → (∀ y S', Sm y → Tray t g (B + 3) S' → Keep [t, g] S S' → Q (.str y) S') → wp (m__law_bad_name [.loc t, .loc nl] S1) Q R1 := by
      intro S1 b Q R1 T1 hb k1 hQ
      refine bad_name_wp T1 (by omega) (k1.get hn (by simp; omega)) hns hl ?_
      intro y S2 hy T2 k2
      exact hQ y S2 hy (T2.up (by omega)) (k1.trans k2)
    cases v with
    | call f xs =>
      have hxs : xs.length ≤ 1000 := by simp [Rw.ins, Vl.asked] at hil; omega
      simp [startE, Rw.pv, Vl.pv, -e_newK, -addP_loc, -e_lstO, -listP_ap, -slP_loc, -revP_loc, -e_dictM]
      refine draw_wp T (by omega) (by omega) (by omega) ?_
      intro w S1 w0 w1 T1 k1
      simp [-e_newK, -addP_loc, -e_lstO, -listP_ap, -slP_loc, -revP_loc, -e_dictM]
      refine ⟨fun hw => ?_, fun hw => ?_⟩
      · refine ⟨by simp [stL]; omega, ?_⟩
        refine bad_name_wp T1 (by omega) (k1.get hn (by simp; omega)) hns hl ?_
        intro y S2 hy T2 k2
        simp [-e_newK, -addP_loc, -e_lstO, -listP_ap, -slP_loc, -revP_loc, -e_dictM]
        refine lst_wp (by simp) ?_
        intro n3 S3 e3 k3 g3
        have lk3 := k3.1
        simp [-e_newK, -addP_loc, -e_lstO, -listP_ap, -slP_loc, -revP_loc, -e_dictM]
        refine draw_wp (T2.keep k3 (by simp) (by simp)) (by omega) (by omega) (by omega) ?_
        intro w2 S4 u0 u1 T4 k4
        have ltT := T.lt
        have lk1 := k1.1
        have lk2 := k2.1
        have e4 := k4.get e3 (by simp; omega)
        have kk : Keep [t, g] S S4 := ((k1.trans k2).trans (k3.mono (by simp))).trans k4
        have cx : cutP (stL xs) (some 1) none = stL (xs.drop 1) := by
          have := cut_drop (xs := stL xs) 1
          simp [stL, List.map_drop] at this ⊢
          exact this
        have hxa : stL xs ++ [.str (Str.ofString "a")] = stL (xs ++ [Str.ofString "a"]) := by simp [stL]
        have hw2 : w2 = 0 ∨ w2 = 1 ∨ w2 = 2 := by omega
        have hf := hr.2
        rcases hw2 with rfl | rfl | rfl
        · simp [e4, hxa, -e_newK, -addP_loc, -e_lstO, -listP_ap, -slP_loc, -revP_loc, -e_dictM]
          exact h (.set x (.call f (xs ++ [Str.ofString "a"]))) S4 (mk x _ hr.1 ⟨hf.1, fun z hz => by
            rcases List.mem_append.mp hz with hz | hz
            · exact hf.2 z hz
            · simp at hz; subst hz; exact ⟨ofS_fair "a", by decide +kernel⟩⟩ (by simp [Vl.asked])) T4 kk
        · simp [e4, cx, -e_newK, -addP_loc, -e_lstO, -listP_ap, -slP_loc, -revP_loc, -e_dictM]
          have := h (.set x (.call f (xs.drop 1))) S4 (mk x _ hr.1 ⟨hf.1, fun z hz => hf.2 z (List.mem_of_mem_drop hz)⟩ (by simp [Vl.asked]; omega)) T4 kk
          simpa [Rw.pv, Vl.pv] using this
        · simp [e4, -e_newK, -addP_loc, -e_lstO, -listP_ap, -slP_loc, -revP_loc, -e_dictM]
          exact h (.set x (.call y xs)) S4 (mk x _ hr.1 ⟨hy, hf.2⟩ (by simp [Vl.asked])) T4 kk
      · refine cc_wp (w := Str.ofString "call") (b := false) (by decide +kernel) ?_
        intro n2 S2 k2 hin
        simp [hin, c1, c2, -e_newK, -addP_loc, -e_lstO, -listP_ap, -slP_loc, -revP_loc, -e_dictM]
        refine last S2 _ _ _ (T1.keep k2 (by simp) (by simp)) (by omega) (k1.trans (k2.mono (by simp))) ?_
        intro y' S3 hy T3 k3
        simp [c2, -e_newK, -addP_loc, -e_lstO, -listP_ap, -slP_loc, -revP_loc, -e_dictM]
        exact h _ S3 (mk y' (.call f xs) hy hr.2 (by omega)) T3 k3
    | num i =>
      simp [startE, Rw.pv, Vl.pv, -e_newK, -addP_loc, -e_lstO, -listP_ap, -slP_loc, -revP_loc, -e_dictM]
      refine cc_wp (w := Str.ofString "num") (b := false) (by decide +kernel) ?_
      intro n1 S1 k1 hin
      simp [hin, c1, c2, -e_newK, -addP_loc, -e_lstO, -listP_ap, -slP_loc, -revP_loc, -e_dictM]
      refine last S1 B _ _ (T.keep k1 (by simp) (by simp)) (by omega) (k1.mono (by simp)) ?_
      intro y' S2 hy T2 k2
      simp [c2, -e_newK, -addP_loc, -e_lstO, -listP_ap, -slP_loc, -revP_loc, -e_dictM]
      exact h _ S2 (mk y' (.num i) hy hr.2 (by omega)) T2 k2
    | copy y0 =>
      simp [startE, Rw.pv, Vl.pv, -e_newK, -addP_loc, -e_lstO, -listP_ap, -slP_loc, -revP_loc, -e_dictM]
      refine cc_wp (w := Str.ofString "copy") (b := true) (by decide +kernel) ?_
      intro n1 S1 k1 hin
      simp [hin, c1, c2, -e_newK, -addP_loc, -e_lstO, -listP_ap, -slP_loc, -revP_loc, -e_dictM]
      refine draw_wp (T.keep k1 (by simp) (by simp)) (by omega) (by omega) (by omega) ?_
      intro w S2 w0 w1 T2 k2
      simp [-e_newK, -addP_loc, -e_lstO, -listP_ap, -slP_loc, -revP_loc, -e_dictM]
      refine ⟨fun hw => ?_, fun hw => ?_⟩
      · refine last S2 _ _ _ T2 (by omega) ((k1.mono (by simp)).trans k2) ?_
        intro y' S3 hy T3 k3
        simp [-e_newK, -addP_loc, -e_lstO, -listP_ap, -slP_loc, -revP_loc, -e_dictM]
        exact h (.set x (.copy y')) S3 (mk x (.copy y') hr.1 hy (by simp [Vl.asked])) T3 k3
      · simp [c1, c2, -e_newK, -addP_loc, -e_lstO, -listP_ap, -slP_loc, -revP_loc, -e_dictM]
        refine last S2 _ _ _ T2 (by omega) ((k1.mono (by simp)).trans k2) ?_
        intro y' S3 hy T3 k3
        simp [c2, -e_newK, -addP_loc, -e_lstO, -listP_ap, -slP_loc, -revP_loc, -e_dictM]
        exact h (.set y' (.copy y0)) S3 (mk y' (.copy y0) hy hr.2 (by omega)) T3 k3
    | add y z =>
      simp [startE, Rw.pv, Vl.pv, -e_newK, -addP_loc, -e_lstO, -listP_ap, -slP_loc, -revP_loc, -e_dictM]
      refine cc_wp (w := Str.ofString "add") (b := false) (by decide +kernel) ?_
      intro n1 S1 k1 hin
      simp [hin, c1, c2, -e_newK, -addP_loc, -e_lstO, -listP_ap, -slP_loc, -revP_loc, -e_dictM]
      refine last S1 B _ _ (T.keep k1 (by simp) (by simp)) (by omega) (k1.mono (by simp)) ?_
      intro y' S2 hy T2 k2
      simp [c2, -e_newK, -addP_loc, -e_lstO, -listP_ap, -slP_loc, -revP_loc, -e_dictM]
      exact h _ S2 (mk y' (.add y z) hy hr.2 (by omega)) T2 k2
    | read =>
      simp [startE, Rw.pv, Vl.pv, -e_newK, -addP_loc, -e_lstO, -listP_ap, -slP_loc, -revP_loc, -e_dictM]
      refine cc_wp (w := Str.ofString "read") (b := false) (by decide +kernel) ?_
      intro n1 S1 k1 hin
      simp [hin, c1, c2, -e_newK, -addP_loc, -e_lstO, -listP_ap, -slP_loc, -revP_loc, -e_dictM]
      refine last S1 B _ _ (T.keep k1 (by simp) (by simp)) (by omega) (k1.mono (by simp)) ?_
      intro y' S2 hy T2 k2
      simp [c2, -e_newK, -addP_loc, -e_lstO, -listP_ap, -slP_loc, -revP_loc, -e_dictM]
      exact h _ S2 (mk y' (.read) hy hr.2 (by omega)) T2 k2
    | clean y0 =>
      simp [startE, Rw.pv, Vl.pv, -e_newK, -addP_loc, -e_lstO, -listP_ap, -slP_loc, -revP_loc, -e_dictM]
      refine cc_wp (w := Str.ofString "clean") (b := true) (by decide +kernel) ?_
      intro n1 S1 k1 hin
      simp [hin, c1, c2, -e_newK, -addP_loc, -e_lstO, -listP_ap, -slP_loc, -revP_loc, -e_dictM]
      refine draw_wp (T.keep k1 (by simp) (by simp)) (by omega) (by omega) (by omega) ?_
      intro w S2 w0 w1 T2 k2
      simp [-e_newK, -addP_loc, -e_lstO, -listP_ap, -slP_loc, -revP_loc, -e_dictM]
      refine ⟨fun hw => ?_, fun hw => ?_⟩
      · refine last S2 _ _ _ T2 (by omega) ((k1.mono (by simp)).trans k2) ?_
        intro y' S3 hy T3 k3
        simp [-e_newK, -addP_loc, -e_lstO, -listP_ap, -slP_loc, -revP_loc, -e_dictM]
        exact h (.set x (.clean y')) S3 (mk x (.clean y') hr.1 hy (by simp [Vl.asked])) T3 k3
      · simp [c1, c2, -e_newK, -addP_loc, -e_lstO, -listP_ap, -slP_loc, -revP_loc, -e_dictM]
        refine last S2 _ _ _ T2 (by omega) ((k1.mono (by simp)).trans k2) ?_
        intro y' S3 hy T3 k3
        simp [c2, -e_newK, -addP_loc, -e_lstO, -listP_ap, -slP_loc, -revP_loc, -e_dictM]
        exact h (.set y' (.clean y0)) S3 (mk y' (.clean y0) hy hr.2 (by omega)) T3 k3
end K02
namespace K02
open PySem PySem.Spec PyProof.Rows L2 PL
theorem pvs_len (a : List Rw) : (Rw.pvs a).length = a.length := by simp [pvs_map]
structure SpRs (m : Nat) (rs rs' : List Rw) : Prop where
  nm : Rw.Alls Sm rs'
  cnt : (Rw.eachs rs').length = (Rw.eachs rs).length
  dep : Rw.deps rs' = Rw.deps rs
  ins : (∀ q ∈ Rw.eachs rs, q.ins.length ≤ m) → ∀ q ∈ Rw.eachs rs', q.ins.length ≤ m + 1
  len : rs'.length = rs.length
theorem alls_app {p : Str → Prop} {a b : List Rw} (h1 : Rw.Alls p a) (h2 : Rw.Alls p b) : Rw.Alls p (a ++ b) := Alls_iff.mpr fun r hr => by
  rcases List.mem_append.mp hr with hr | hr
  · exact Alls_iff.mp h1 r hr
  · exact Alls_iff.mp h2 r hr
theorem SpRs.snoc {m : Nat} {rs rs' : List Rw} {r r' : Rw} (a : SpRs m rs rs') (hn : r'.All Sm) (hc : r'.each.length = r.each.length) (hd : r'.dep = r.dep) (hi : (∀ q ∈ r.each, q.ins.length ≤ m) → ∀ q ∈ r'.each, q.ins.length ≤ m + 1) : SpRs m (rs ++ [r]) (rs' ++ [r']) where
  nm := alls_app a.nm ⟨hn, trivial⟩
  cnt := by rw [eachs_app, eachs_app]; simp [Rw.eachs, a.cnt, hc]
  dep := by rw [deps_app, deps_app, a.dep]; simp [Rw.deps, hd]
  ins := fun z q hq => by
    rw [eachs_app, List.mem_append] at hq
    rcases hq with hq | hq
    · exact a.ins (fun q hq => z q (by rw [eachs_app, List.mem_append]; exact .inl hq)) q hq
    · simp [Rw.eachs] at hq
      exact hi (fun q hq => z q (by rw [eachs_app, List.mem_append]; exact .inr (by simp [Rw.eachs]; exact hq))) q hq
  len := by simp [a.len]
theorem rows_spoilt_wp : ∀ (d : Nat) {t g B nl la m : Nat} {v : Int} {ns : List Str} {rs : List Rw} {S : Sto} {P : PV → Sto → Prop} {R : Str → PV → Sto → Prop}, Rw.deps rs < d → Tray t g B S → B + 3 * (Rw.eachs rs).length < 140000000000 → S[nl]? = some (.lst (stL ns)) → (∀ x ∈ ns, Sm x) → ns.length ≤ 100 → nl ≠ t ∧ nl ≠ g ∧ nl ≠ la →
    S[la]? = some (.lst [.int v]) → la ≠ t ∧ la ≠ g → Rw.Alls Sm rs → 2 ≤ m → (∀ q ∈ Rw.eachs rs, q.ins.length ≤ 1000) → (Rw.eachs rs).length ≤ 1000 →
    (∀ (rs' : List Rw) (v' : Int) S', SpRs m rs rs' → S'[la]? = some (.lst [.int v']) → Tray t g (B + 3 * (Rw.eachs rs).length) S' → Keep [t, g, la] S S' → P (.tup (Rw.pvs rs')) S') → wp (m__law_rows_spoilt d [.loc t, .tup (Rw.pvs rs), .loc nl, .loc la] S) P R := by
  intro d
  induction d with
  | zero => intro t g B nl la m v ns rs S P R hd; omega
  | succ d ih =>
    intro t g B nl la m v ns rs S P R hd T hB hn hns hnl hne ha hla hr hm hi hc h
    unfold m__law_rows_spoilt
    rw [callS_wp]
    simp [startE, -e_newK, -addP_loc, -e_lstO, -listP_ap, -slP_loc, -revP_loc, -e_dictM]
    refine lst_wp (by simp) ?_
    intro fo S1 e1 k1 g1
    have lk1 := k1.1
    rw [pvs_map]
    simp [-e_newK, -addP_loc, -e_lstO, -listP_ap, -slP_loc, -revP_loc, -e_dictM]
    have ltT := T.lt
    have lla := lt_of_get ha
    have lln := lt_of_get hn
    refine forM_wp Rw.pv (fun dn τ S' => ∃ (x5 x6 : Option PV) (dn' : List Rw) (v' : Int), τ = [some (.loc t), some (.tup (rs.map Rw.pv)), some (.loc nl), some (.loc la), some (.loc fo), x5, x6] ∧ SpRs m dn dn' ∧ S'[fo]? = some (.lst (Rw.pvs dn')) ∧ S'[la]? = some (.lst [.int v']) ∧ Tray t g (B + 3 * (Rw.eachs dn).length) S' ∧ Keep [t, g, la, fo] S1 S') ⟨_, _, [], v, rfl, ⟨trivial, rfl, rfl, fun _ q hq => by simp [Rw.eachs] at hq, rfl⟩, by simpa [Rw.pvs] using e1, k1.get ha (by simp), by simpa [Rw.eachs] using T.keep k1 (by simp) (by simp), .refl⟩ ?_ ?_
    · rintro dn r rest τ S2 J heq ⟨x5, x6, dn', v', rfl, sp, e2, a2, T2, k2⟩ hJ
      have hrm : r ∈ rs := by rw [heq]; simp
      have hec : (Rw.eachs rs).length = (Rw.eachs dn).length + (r.each.length + (Rw.eachs rest).length) := by
        rw [heq, eachs_app, List.length_append, Rw.eachs, List.length_append]
      have hpos := Rw.each_pos r
      have hrs := rows_sub rs r hrm
      have hra := Alls_iff.mp hr r hrm
      refine ⟨by simp, _, rfl, ?_⟩
      simp [a2, -e_newK, -addP_loc, -e_lstO, -listP_ap, -slP_loc, -revP_loc, -e_dictM]
      have a3 : (S2.set la (.lst [.int (v' - 1)]))[la]? = some (.lst [.int (v' - 1)]) := set_get a2
      have k3 : Keep [la] S2 (S2.set la (.lst [.int (v' - 1)])) := .set (by simp)
      have lk2 := k2.1
      have T3 := T2.keep k3 (by simp; omega) (by simp; omega)
      have e3 := k3.get e2 (by simp; omega)
      have n3 : (S2.set la (.lst [.int (v' - 1)]))[nl]? = some (.lst (stL ns)) := k3.get (k2.get (k1.get hn (by simp)) (by simp; omega)) (by simp; omega)
      have kk3 : Keep [t, g, la, fo] S1 (S2.set la (.lst [.int (v' - 1)])) := k2.trans (k3.mono (by intro x hx; simp at hx ⊢; omega))
      generalize S2.set la (.lst [.int (v' - 1)]) = S3 at a3 T3 e3 n3 kk3 ⊢
      have step2 : ∀ (r1 : Rw) (y6 : Option PV) (v2 : Int) (S4 : Sto), r1.All Sm → r1.each.length = r.each.length → r1.dep = r.dep → ((∀ q ∈ r.each, q.ins.length ≤ m) → ∀ q ∈ r1.each, q.ins.length ≤ m + 1) → (∀ y a b, r1 = .iff y a b → ∃ x, r = .iff x a b) →
          S4[la]? = some (.lst [.int v2]) → S4[fo]? = some (.lst (Rw.pvs dn')) → S4[nl]? = some (.lst (stL ns)) → Tray t g (B + 3 * (Rw.eachs dn).length + 3) S4 → Keep [t, g, la, fo] S1 S4 →
          PL.wpS ((seqS (ifS (blM (binM eqP (binM getP (vV 5) (cV (PV.int 0))) (cV (PV.str (Str.ofString "if")))))
                (seqS (asgS (callD (m__law_rows_spoilt d) (aC (vV 0) (aC (binM getP (vV 5) (cV (PV.int 2))) (aC (vV 2) (aC (vV 3) aN))))) (gN 6))
                  (asgS (tupM (aC (binM getP (vV 5) (cV (PV.int 0))) (aC (binM getP (vV 5) (cV (PV.int 1))) (aC (vV 6) (aC (callD (m__law_rows_spoilt d) (aC (vV 0) (aC (binM getP (vV 5) (cV (PV.int 3))) (aC (vV 2) (aC (vV 3) aN))))) aN))))) (gN 5))) nopS)
              (exprS (mtM "list" appendP (vV 4) (aC (vV 5) aN)))) [some (PV.loc t), some (PV.tup (List.map Rw.pv rs)), some (PV.loc nl), some (PV.loc la), some (PV.loc fo), some r1.pv, y6] S4) J P (PL.dropK R) := by
        intro r1 y6 v2 S4 q1 q2 q3 q4 q5 a4 e4 n4 T4 k4
        have fin : ∀ (r2 : Rw) (z6 : Option PV) (v3 : Int) (S5 : Sto), r2.All Sm → r2.each.length = r.each.length → r2.dep = r.dep → ((∀ q ∈ r.each, q.ins.length ≤ m) → ∀ q ∈ r2.each, q.ins.length ≤ m + 1) →
            S5[la]? = some (.lst [.int v3]) → S5[fo]? = some (.lst (Rw.pvs dn')) → Tray t g (B + 3 * (Rw.eachs (dn ++ [r])).length) S5 → Keep [t, g, la, fo] S1 S5 → dn'.length < 1000 → J [some (PV.loc t), some (PV.tup (List.map Rw.pv rs)), some (PV.loc nl), some (PV.loc la), some (PV.loc fo), some r2.pv, z6] (S5.set fo (.lst (Rw.pvs dn' ++ [r2.pv]))) := by
          intro r2 z6 v3 S5 p1 p2 p3 p4 a5 e5 T5 k5 hdl
          have k6 : Keep [fo] S5 (S5.set fo (.lst (Rw.pvs dn' ++ [r2.pv]))) := .set (by simp)
          refine hJ _ _ ⟨_, _, dn' ++ [r2], v3, rfl, sp.snoc p1 p2 p3 p4, ?_, k6.get a5 (by simp; omega), T5.keep k6 (by simp; omega) (by simp; omega), k5.trans (k6.mono (by intro x hx; simp at hx ⊢; omega))⟩
          rw [set_get e5]
          simp [pvs_map]
        have hdl : dn'.length < 1000 := by
          have h1 := sp.len
          have h2 : dn.length < rs.length := by rw [heq]; simp
          have h3 := len_eachs rs
          omega
        have hdn : (Rw.eachs (dn ++ [r])).length = (Rw.eachs dn).length + r.each.length := by rw [eachs_app, List.length_append]; simp [Rw.eachs]
        have hpl : (Rw.pvs dn').length = dn'.length := pvs_len _
        have simp1 : (∀ y a b, r1 ≠ .iff y a b) → J [some (PV.loc t), some (PV.tup (List.map Rw.pv rs)), some (PV.loc nl), some (PV.loc la), some (PV.loc fo), some r1.pv, y6] (S4.set fo (.lst (Rw.pvs dn' ++ [r1.pv]))) := fun _ =>
          fin r1 y6 v2 S4 q1 q2 q3 q4 a4 e4 (T4.up (by omega)) k4 hdl
        cases r1 with
        | set x v =>
          have := simp1 (by intro _ _ _ z; cases z)
          simp [Rw.pv, e4, hpl, -e_newK, -addP_loc, -e_lstO, -listP_ap, -slP_loc, -revP_loc, -e_dictM]
          exact ⟨by omega, by simpa [Rw.pv] using this⟩
        | send x =>
          have := simp1 (by intro _ _ _ z; cases z)
          simp [Rw.pv, e4, hpl, -e_newK, -addP_loc, -e_lstO, -listP_ap, -slP_loc, -revP_loc, -e_dictM]
          exact ⟨by omega, by simpa [Rw.pv] using this⟩
        | give x =>
          have := simp1 (by intro _ _ _ z; cases z)
          simp [Rw.pv, e4, hpl, -e_newK, -addP_loc, -e_lstO, -listP_ap, -slP_loc, -revP_loc, -e_dictM]
          exact ⟨by omega, by simpa [Rw.pv] using this⟩
        | iff y a b =>
          obtain ⟨x, rfl⟩ := q5 y a b rfl
          have hdp : Rw.deps a < d ∧ Rw.deps b < d := by
            have h1 := hrs.1
            simp only [Rw.dep] at h1
            omega
          have hcab : (Rw.iff x a b).each.length = 1 + ((Rw.eachs a).length + (Rw.eachs b).length) := by simp [Rw.each]; omega
          have hma : ∀ q ∈ Rw.eachs a, q ∈ (Rw.iff x a b).each := fun q hq => by rw [Rw.each]; exact List.mem_cons_of_mem _ (List.mem_append_left _ hq)
          have hmb : ∀ q ∈ Rw.eachs b, q ∈ (Rw.iff x a b).each := fun q hq => by rw [Rw.each]; exact List.mem_cons_of_mem _ (List.mem_append_right _ hq)
          have hce := hrs.2.1
          simp [Rw.pv, -e_newK, -addP_loc, -e_lstO, -listP_ap, -slP_loc, -revP_loc, -e_dictM]
          refine ih (m := m) hdp.1 T4 (by omega) n4 hns hnl hne a4 hla q1.2.1 hm (fun q hq => hi q (hrs.2.2 q (hma q hq))) (by omega) ?_
          intro a' v3 S5 sa a5 T5 k5
          have e5 := k5.get e4 (by simp; omega)
          have n5 := k5.get n4 (by simp; omega)
          simp [-e_newK, -addP_loc, -e_lstO, -listP_ap, -slP_loc, -revP_loc, -e_dictM]
          refine ih (m := m) hdp.2 T5 (by omega) n5 hns hnl hne a5 hla q1.2.2 hm (fun q hq => hi q (hrs.2.2 q (hmb q hq))) (by omega) ?_
          intro b' v4 S6 sb a6 T6 k6
          have e6 := k6.get e5 (by simp; omega)
          simp [e6, hpl, -e_newK, -addP_loc, -e_lstO, -listP_ap, -slP_loc, -revP_loc, -e_dictM]
          have := fin (.iff y a' b') (some (.tup (Rw.pvs a'))) v4 S6 ⟨q1.1, sa.nm, sb.nm⟩ (by simp [Rw.each, sa.cnt, sb.cnt]) (by simp [Rw.dep, sa.dep, sb.dep]) (fun z q hq => by
            rw [Rw.each] at hq
            rcases List.mem_cons.mp hq with rfl | hq
            · simp [Rw.ins]; omega
            · rcases List.mem_append.mp hq with hq | hq
              · exact sa.ins (fun q hq => z q (hma q hq)) q hq
              · exact sb.ins (fun q hq => z q (hmb q hq)) q hq) a6 e6 (T6.up (by omega)) ((k4.trans (k5.mono (by intro x hx; simp at hx ⊢; omega))).trans (k6.mono (by intro x hx; simp at hx ⊢; omega))) hdl
          exact ⟨by omega, by simpa [Rw.pv] using this⟩
      simp [a3, -e_newK, -addP_loc, -e_lstO, -listP_ap, -slP_loc, -revP_loc, -e_dictM]
      refine ⟨fun hv => ?_, fun hv => ?_⟩
      · refine row_spoilt_wp (m := m) T3 (by omega) n3 hns hnl ⟨hne.1, hne.2.1⟩ hra hm (by
          have := hi r (hrs.2.2 r (by cases r <;> simp [Rw.each])); exact this) ?_
        intro r1 S4 s1 T4 k4
        have := step2 r1 x6 (v' - 1) S4 s1.nm s1.cnt s1.dep s1.ins s1.back (k4.get a3 (by simp; omega)) (k4.get e3 (by simp; omega)) (k4.get n3 (by simp; omega)) T4 (kk3.trans (k4.mono (by intro x hx; simp at hx ⊢; omega)))
        simp [-e_newK, -addP_loc, -e_lstO, -listP_ap, -slP_loc, -revP_loc, -e_dictM] at this
        simp [-e_newK, -addP_loc, -e_lstO, -listP_ap, -slP_loc, -revP_loc, -e_dictM]
        exact this
      · have := step2 r x6 (v' - 1) S3 hra rfl rfl (fun z q hq => by have := z q hq; omega) (fun y a b e => ⟨y, e⟩) a3 e3 n3 (T3.up (by omega)) kk3
        simp [-e_newK, -addP_loc, -e_lstO, -listP_ap, -slP_loc, -revP_loc, -e_dictM] at this
        exact this
    · rintro τ S2 ⟨x5, x6, dn', v', rfl, sp, e2, a2, T2, k2⟩
      refine ⟨by simp, ?_⟩
      simp [e2, -e_newK, -addP_loc, -e_lstO, -listP_ap, -slP_loc, -revP_loc, -e_dictM]
      exact h dn' v' S2 sp a2 T2 ((Keep.refl (M := [t, g, la]) (S := S)).step k1 (by simp) |>.step k2 (by intro x hx hlt; simp at hx ⊢; omega))
end K02
namespace K02
open PySem PySem.Spec PyProof.Rows L2 PL
theorem sp_mem {j : Nat} {ds es : List Df} (p : SP j ds) (hm : ∀ c ∈ es, c ∈ ds) (hl : es.length ≤ ds.length + 1) : SP (j + 1) es :=
  ⟨by have := p.len; omega, fun c hc => p.nm c (hm c hc), fun c hc => p.dep c (hm c hc), fun c hc => p.cnt c (hm c hc), fun c hc => p.par c (hm c hc), fun c hc r hr => by have := p.ins c (hm c hc) r hr; omega⟩
theorem sp_put {j : Nat} {a b : List Df} {d e : Df} (p : SP j (a ++ d :: b)) (h1 : Sm e.1) (h2 : ∀ x ∈ e.2.1, Sm x) (h3 : Rw.Alls Sm e.2.2) (h4 : Rw.deps e.2.2 ≤ 4) (h5 : (Rw.eachs e.2.2).length ≤ 60) (h6 : e.2.1.length ≤ 4) (h7 : ∀ r ∈ Rw.eachs e.2.2, r.ins.length ≤ 5 + (j + 1)) : SP (j + 1) (a ++ e :: b) := by
  have mem : ∀ c ∈ a ++ e :: b, c = e ∨ c ∈ a ++ d :: b := fun c hc => by
    simp only [List.mem_append, List.mem_cons] at hc ⊢
    rcases hc with h | h | h
    · exact .inr (.inl h)
    · exact .inl h
    · exact .inr (.inr (.inr h))
  refine ⟨by have := p.len; simp at this ⊢; omega, ?_, ?_, ?_, ?_, ?_⟩
  · intro c hc
    rcases mem c hc with rfl | hc
    · exact ⟨h1, h2, h3⟩
    · exact p.nm c hc
  · intro c hc
    rcases mem c hc with rfl | hc
    · exact h4
    · exact p.dep c hc
  · intro c hc
    rcases mem c hc with rfl | hc
    · exact h5
    · exact p.cnt c hc
  · intro c hc
    rcases mem c hc with rfl | hc
    · exact h6
    · exact p.par c hc
  · intro c hc
    rcases mem c hc with rfl | hc
    · exact h7
    · exact fun r hr => by have := p.ins c hc r hr; omega
theorem spoilt_wp {t g B so j : Nat} {ds : List Df} {S : Sto} {P : PV → Sto → Prop} {R : Str → PV → Sto → Prop} (T : Tray t g B S) (hB : B < 100000000000) (hs : S[so]? = some (.lst (ds.map Df.pv))) (hst : so ≠ t ∧ so ≠ g) (p : SP j ds) (hj : j ≤ 5)
    (h : ∀ n es S', S'[n]? = some (.lst (es.map Df.pv)) → n ≠ t ∧ n ≠ g → SP (j + 1) es → Tray t g (B + 300) S' → Keep [t, g] S S' → P (.loc n) S') : wp (m__law_spoilt [.loc t, .loc so] S) P R := by
  have hlen := p.len
  unfold m__law_spoilt
  rw [callS_wp]
  simp [startE, -e_newK, -addP_loc, -e_lstO, -listP_ap, -slP_loc, -revP_loc, -e_dictM]
  refine draw_wp T (by omega) (by omega) (by omega) ?_
  intro lot S1 l0 l1 T1 k1
  have e1 : S1[so]? = some (.lst (ds.map Df.pv)) := k1.get hs (by simp; omega)
  simp [e1, -e_newK, -addP_loc, -e_lstO, -listP_ap, -slP_loc, -revP_loc, -e_dictM]
  refine draw_wp T1 (by omega) (by omega) (by omega) ?_
  intro at_ S2 a0 a1 T2 k2
  have e2 : S2[so]? = some (.lst (ds.map Df.pv)) := k2.get e1 (by simp; omega)
  obtain ⟨a, rfl⟩ : ∃ a : Nat, at_ = (a : Int) := ⟨at_.toNat, by omega⟩
  simp [e2, -e_newK, -addP_loc, -e_lstO, -listP_ap, -slP_loc, -revP_loc, -e_dictM]
  refine accK_wp Df.pv (fun d => .str d.1) (fun S' k => by simp; exact k.get e2 (by simp)) (by simp; omega) (fun d hd acc S' J hl k hJ => ⟨_, rfl, ?_⟩) ?_
  · rw [stepE_wp]
    simp [wipeE, Df.pv, -e_newK, -addP_loc, -e_lstO, -listP_ap, -slP_loc, -revP_loc, -e_dictM]
    exact ⟨hl, hJ _ k⟩
  intro S3 k3
  refine new_wp ?_
  intro nl S4 n4 k4 g4
  have lk4 := k4.1
  have n4 : S4[nl]? = some (.lst (stL (ds.map (·.1)))) := by rw [n4]; simp [stL]
  have e4 : S4[so]? = some (.lst (ds.map Df.pv)) := k4.get (k3.get e2 (by simp)) (by simp)
  have T4 := (T2.keep k3 (by simp) (by simp)).keep k4 (by simp) (by simp)
  have ltT := T.lt
  have lk1 := k1.1
  have lk2 := k2.1
  have lk3 := k3.1
  have kS4 : Keep [t, g] S S4 := ((k1.trans k2).trans (k3.mono (by simp))).trans (k4.mono (by simp))
  have c1 : cutP (ds.map Df.pv) none (some (a : Int)) = (ds.take a).map Df.pv := by rw [cut_take, List.map_take]
  have c2 : cutP (ds.map Df.pv) (some ((a : Int) + 1)) none = (ds.drop (a + 1)).map Df.pv := by
    rw [show ((a : Int) + 1) = ((a + 1 : Nat) : Int) by omega, cut_drop, List.map_drop]
  have c3 : cutP (ds.map Df.pv) (some (a : Int)) none = (ds.drop a).map Df.pv := by rw [cut_drop, List.map_drop]
  simp [e4, -e_newK, -addP_loc, -e_lstO, -listP_ap, -slP_loc, -revP_loc, -e_dictM]
  refine ⟨fun ha => ?_, fun ha => ?_⟩
  · skip
    refine slL_wp e4 ?_
    intro n5 S5 e5 k5 g5
    have lk5 := k5.1
    rw [c1] at e5
    simp [-e_newK, -addP_loc, -e_lstO, -listP_ap, -slP_loc, -revP_loc, -e_dictM]
    refine slL_wp (k5.get e4 (by simp)) ?_
    intro n6 S6 e6 k6 g6
    have lk6 := k6.1
    rw [c2] at e6
    simp [-e_newK, -addP_loc, -e_lstO, -listP_ap, -slP_loc, -revP_loc, -e_dictM]
    refine addL_wp (k6.get e5 (by simp)) e6 (by simp; omega) ?_
    intro n7 S7 e7 k7 g7
    have lk7 := k7.1
    rw [← List.map_append] at e7
    simp
    have kk : Keep [] S4 S7 := (k5.trans k6).trans k7
    refine h n7 _ S7 e7 (by omega) (sp_mem p (fun c hc => ?_) (by simp; omega)) ((T4.keep kk (by simp) (by simp)).up (by omega)) (kS4.trans (kk.mono (by simp)))
    rcases List.mem_append.mp hc with hc | hc
    · exact List.mem_of_mem_take hc
    · exact List.mem_of_mem_drop hc
  have hal : a < ds.length := by omega
  obtain ⟨d, hd⟩ : ∃ d, ds[a]? = some d := ⟨_, List.getElem?_eq_getElem hal⟩
  have ga : atI (ds.map Df.pv) (a : Int) = some d.pv := by rw [PL.atI_get (by simp; omega), List.getElem?_map, hd]; rfl
  have hdm : d ∈ ds := List.mem_of_getElem? hd
  have hspl : ds = ds.take a ++ d :: ds.drop (a + 1) := by
    have h1 := List.take_append_drop a ds
    have h2 : ds.drop a = d :: ds.drop (a + 1) := by
      rw [List.drop_eq_getElem_cons hal]
      congr 1
      rw [List.getElem?_eq_getElem hal] at hd
      exact Option.some.inj hd
    rw [h2] at h1
    exact h1.symm
  refine ⟨fun hl0 => ?_, fun hl0 => ?_⟩
  · skip
    refine slL_wp e4 ?_
    intro n5 S5 e5 k5 g5
    have lk5 := k5.1
    rw [c1] at e5
    simp [-e_newK, -addP_loc, -e_lstO, -listP_ap, -slP_loc, -revP_loc, -e_dictM]
    refine slL_wp (k5.get e4 (by simp)) ?_
    intro n6 S6 e6 k6 g6
    have lk6 := k6.1
    rw [c2] at e6
    simp [-e_newK, -addP_loc, -e_lstO, -listP_ap, -slP_loc, -revP_loc, -e_dictM]
    refine addL_wp (k6.get e5 (by simp)) e6 (by simp; omega) ?_
    intro n7 S7 e7 k7 g7
    have lk7 := k7.1
    rw [← List.map_append] at e7
    simp
    have kk : Keep [] S4 S7 := (k5.trans k6).trans k7
    refine h n7 _ S7 e7 (by omega) (sp_mem p (fun c hc => ?_) (by simp; omega)) ((T4.keep kk (by simp) (by simp)).up (by omega)) (kS4.trans (kk.mono (by simp)))
    rcases List.mem_append.mp hc with hc | hc
    · exact List.mem_of_mem_take hc
    · exact List.mem_of_mem_drop hc
  have hpl := p.par d hdm
  have sm := p.nm d hdm
  have lt : (ds.take a).length ≤ 20 := by simp; omega
  have ld : (ds.drop (a + 1)).length ≤ 20 := by simp; omega
  have fin : ∀ (e : Df) (S5 : Sto), Sm e.1 → (∀ x ∈ e.2.1, Sm x) → Rw.Alls Sm e.2.2 → Rw.deps e.2.2 ≤ 4 → (Rw.eachs e.2.2).length ≤ 60 → e.2.1.length ≤ 4 → (∀ r ∈ Rw.eachs e.2.2, r.ins.length ≤ 5 + (j + 1)) → Tray t g (B + 300) S5 → S5[so]? = some (.lst (ds.map Df.pv)) → Keep [t, g] S S5 →
      PL.wpS ((retS (binM addP (binM addP (slM (vV 1) oN (oS (vV 3))) (lstM (aC (tupM (aC (vV 5) (aC (vV 6) (aC (vV 7) aN)))) aN))) (slM (vV 1) (oS (binM addP (vV 3) (cV (PV.int 1)))) oN))) [some (.loc t), some (.loc so), some (.int lot), some (.int a), some (.loc nl), some (.str e.1), some (.tup (stL e.2.1)), some (.tup (Rw.pvs e.2.2)), none] S5) (nonK P) P (PL.dropK R) := by
    intro e S5 h1 h2 h3 h4 h5 h6 h7 T5 e5 k5
    have ltT5 := T5.lt
    have lso := lt_of_get e5
    simp [-e_newK, -addP_loc, -e_lstO, -listP_ap, -slP_loc, -revP_loc, -e_dictM]
    refine slL_wp e5 ?_
    intro n6 S6 e6 k6 g6
    have lk6 := k6.1
    rw [c1] at e6
    simp [-e_newK, -addP_loc, -e_lstO, -listP_ap, -slP_loc, -revP_loc, -e_dictM]
    refine lst_wp (by simp) ?_
    intro n7 S7 e7 k7 g7
    have lk7 := k7.1
    simp [-e_newK, -addP_loc, -e_lstO, -listP_ap, -slP_loc, -revP_loc, -e_dictM]
    refine addL_wp (k7.get e6 (by simp)) e7 (by simp at lt ⊢; omega) ?_
    intro n8 S8 e8 k8 g8
    have lk8 := k8.1
    simp [-e_newK, -addP_loc, -e_lstO, -listP_ap, -slP_loc, -revP_loc, -e_dictM]
    refine slL_wp (k8.get (k7.get (k6.get e5 (by simp)) (by simp)) (by simp)) ?_
    intro n9 S9 e9 k9 g9
    have lk9 := k9.1
    rw [c2] at e9
    simp [-e_newK, -addP_loc, -e_lstO, -listP_ap, -slP_loc, -revP_loc, -e_dictM]
    refine addL_wp (k9.get e8 (by simp)) e9 (by simp at lt ld ⊢; omega) ?_
    intro n10 S10 e10 k10 g10
    have lk10 := k10.1
    have e10 : S10[n10]? = some (.lst ((ds.take a ++ e :: ds.drop (a + 1)).map Df.pv)) := by
      rw [e10]
      simp [Df.pv]
    simp
    have kk : Keep [] S5 S10 := (((k6.trans k7).trans k8).trans k9).trans k10
    refine h n10 _ S10 e10 (by omega) ?_ (T5.keep kk (by simp) (by simp)) (k5.trans (kk.mono (by simp)))
    rw [hspl] at p
    exact sp_put p h1 h2 h3 h4 h5 h6 h7
  simp [e4, ga, -e_newK, -addP_loc, -e_lstO, -listP_ap, -slP_loc, -revP_loc, -e_dictM]
  simp only [Df.pv, e_gT, e_gsC, e_gN, e_gsN, List.length_cons, List.length_nil, if_true, Option.bind_some]
  have hnames : ∀ x ∈ ds.map (·.1), Sm x := fun x hx => by
    obtain ⟨c, hc, rfl⟩ := List.mem_map.mp hx
    exact (p.nm c hc).1
  have hnl : (ds.map (·.1)).length ≤ 100 := by simp; omega
  have hne : nl ≠ t ∧ nl ≠ g := by omega
  have T43 : Tray t g (B + 300) S4 := T4.up (by omega)
  have same := fin d S4 sm.1 sm.2.1 sm.2.2 (p.dep d hdm) (p.cnt d hdm) hpl (fun r hr => by have := p.ins d hdm r hr; omega) T43 e4 kS4
  have hlot : lot = 1 ∨ lot = 2 ∨ lot = 3 ∨ lot = 4 ∨ 4 < lot := by omega
  rcases hlot with rfl | rfl | rfl | rfl | hlot
  · simp [e4, -e_newK, -addP_loc, -e_lstO, -listP_ap, -slP_loc, -revP_loc, -e_dictM]
    refine ⟨fun h6 => ?_, fun h6 => ?_⟩
    · refine slL_wp e4 ?_
      intro n5 S5 e5 k5 g5
      have lk5 := k5.1
      rw [c1] at e5
      simp [k5.get e4 (by simp), ga, -e_newK, -addP_loc, -e_lstO, -listP_ap, -slP_loc, -revP_loc, -e_dictM]
      refine lst_wp (by simp) ?_
      intro n6 S6 e6 k6 g6
      have lk6 := k6.1
      simp [-e_newK, -addP_loc, -e_lstO, -listP_ap, -slP_loc, -revP_loc, -e_dictM]
      refine addL_wp (k6.get e5 (by simp)) e6 (by simp at lt ⊢; omega) ?_
      intro n7 S7 e7 k7 g7
      have lk7 := k7.1
      simp [-e_newK, -addP_loc, -e_lstO, -listP_ap, -slP_loc, -revP_loc, -e_dictM]
      refine slL_wp (k7.get (k6.get (k5.get e4 (by simp)) (by simp)) (by simp)) ?_
      intro n8 S8 e8 k8 g8
      have lk8 := k8.1
      rw [c3] at e8
      simp [-e_newK, -addP_loc, -e_lstO, -listP_ap, -slP_loc, -revP_loc, -e_dictM]
      refine addL_wp (k8.get e7 (by simp)) e8 (by simp; omega) ?_
      intro n9 S9 e9 k9 g9
      have lk9 := k9.1
      have e9 : S9[n9]? = some (.lst ((ds.take a ++ d :: ds.drop a).map Df.pv)) := by
        rw [e9]; simp [Df.pv]
      simp
      have kk : Keep [] S4 S9 := (((k5.trans k6).trans k7).trans k8).trans k9
      refine h n9 _ S9 e9 (by omega) (sp_mem p (fun c hc => ?_) (by simp; omega)) ((T4.keep kk (by simp) (by simp)).up (by omega)) (kS4.trans (kk.mono (by simp)))
      simp only [List.mem_append, List.mem_cons] at hc
      rcases hc with hc | rfl | hc
      · exact List.mem_of_mem_take hc
      · exact hdm
      · exact List.mem_of_mem_drop hc
    · simp [-e_newK, -addP_loc, -e_lstO, -listP_ap, -slP_loc, -revP_loc, -e_dictM] at same
      exact same
  · simp [e4, -e_newK, -addP_loc, -e_lstO, -listP_ap, -slP_loc, -revP_loc, -e_dictM]
    refine bad_name_wp T4 (by omega) n4 hnames hnl ?_
    intro y S5 hy T5 k5
    have f := fin (y, d.2.1, d.2.2) S5 hy sm.2.1 sm.2.2 (p.dep d hdm) (p.cnt d hdm) hpl (fun r hr => by have := p.ins d hdm r hr; omega) (T5.up (by omega)) (k5.get e4 (by simp; omega)) (kS4.trans k5)
    simp [-e_newK, -addP_loc, -e_lstO, -listP_ap, -slP_loc, -revP_loc, -e_dictM] at f
    simp [-e_newK, -addP_loc, -e_lstO, -listP_ap, -slP_loc, -revP_loc, -e_dictM]
    exact f
  · have p3 : cutP (stL d.2.1) none (some 3) = stL (d.2.1.take 3) := by
      have := cut_take (xs := stL d.2.1) 3
      simp [stL, List.map_take] at this ⊢
      exact this
    have p1 : cutP (stL d.2.1) none (some 1) = stL (d.2.1.take 1) := by
      have := cut_take (xs := stL d.2.1) 1
      simp [stL, List.map_take] at this ⊢
      exact this
    have pa : ∀ x y : List Str, stL x ++ stL y = stL (x ++ y) := fun x y => by simp [stL]
    simp [e4, p3, p1, pa, -e_newK, -addP_loc, -e_lstO, -listP_ap, -slP_loc, -revP_loc, -e_dictM]
    refine ⟨by simp [stL]; omega, ?_⟩
    have f := fin (d.1, d.2.1.take 3 ++ d.2.1.take 1, d.2.2) S4 sm.1 (fun x hx => by
      rcases List.mem_append.mp hx with hx | hx
      · exact sm.2.1 x (List.mem_of_mem_take hx)
      · exact sm.2.1 x (List.mem_of_mem_take hx)) sm.2.2 (p.dep d hdm) (p.cnt d hdm) (by simp; omega) (fun r hr => by have := p.ins d hdm r hr; omega) T43 e4 kS4
    simp [-e_newK, -addP_loc, -e_lstO, -listP_ap, -slP_loc, -revP_loc, -e_dictM] at f
    exact f
  · have p3 : cutP (stL d.2.1) none (some 3) = stL (d.2.1.take 3) := by
      have := cut_take (xs := stL d.2.1) 3
      simp [stL, List.map_take] at this ⊢
      exact this
    have p1 : cutP (stL d.2.1) (some 1) none = stL (d.2.1.drop 1) := by
      have := cut_drop (xs := stL d.2.1) 1
      simp [stL, List.map_drop] at this ⊢
      exact this
    have pb : ∀ (x : List Str) (y : Str), stL x ++ [.str y] = stL (x ++ [y]) := fun x y => by simp [stL]
    simp [e4, p3, p1, pb, -e_newK, -addP_loc, -e_lstO, -listP_ap, -slP_loc, -revP_loc, -e_dictM]
    refine ⟨by simp [stL]; omega, ?_⟩
    refine lst_wp (by simp) ?_
    intro n5 S5 e5 k5 g5
    have lk5 := k5.1
    simp [-e_newK, -addP_loc, -e_lstO, -listP_ap, -slP_loc, -revP_loc, -e_dictM]
    refine draw_wp (T4.keep k5 (by simp) (by simp)) (by omega) (by omega) (by omega) ?_
    intro w S6 w0 w1 T6 k6
    have lk5 := k5.1
    have e6 := k6.get e5 (by simp; omega)
    have lso := lt_of_get e4
    have e46 := k6.get (k5.get e4 (by simp)) (by simp; omega)
    have kk6 : Keep [t, g] S S6 := (kS4.trans (k5.mono (by simp))).trans k6
    have go : ∀ ps : List Str, (∀ x ∈ ps, Sm x) → ps.length ≤ 4 → _ := fun ps h1 h2 => fin (d.1, ps, d.2.2) S6 sm.1 h1 sm.2.2 (p.dep d hdm) (p.cnt d hdm) h2 (fun r hr => by have := p.ins d hdm r hr; omega) (T6.up (by omega)) e46 kk6
    have hw : w = 0 ∨ w = 1 ∨ w = 2 := by omega
    rcases hw with rfl | rfl | rfl
    · have f := go (d.2.1.drop 1) (fun x hx => sm.2.1 x (List.mem_of_mem_drop hx)) (by simp; omega)
      simp [-e_newK, -addP_loc, -e_lstO, -listP_ap, -slP_loc, -revP_loc, -e_dictM] at f
      simp [e6, -e_newK, -addP_loc, -e_lstO, -listP_ap, -slP_loc, -revP_loc, -e_dictM]
      exact f
    · have f := go (d.2.1.take 3 ++ [Str.ofString "b"]) (fun x hx => by
        rcases List.mem_append.mp hx with hx | hx
        · exact sm.2.1 x (List.mem_of_mem_take hx)
        · simp at hx; subst hx; exact ⟨ofS_fair "b", by decide +kernel⟩) (by simp; omega)
      simp [-e_newK, -addP_loc, -e_lstO, -listP_ap, -slP_loc, -revP_loc, -e_dictM] at f
      simp [e6, -e_newK, -addP_loc, -e_lstO, -listP_ap, -slP_loc, -revP_loc, -e_dictM]
      exact f
    · have f := go (d.2.1.take 3 ++ [Str.ofString "A"]) (fun x hx => by
        rcases List.mem_append.mp hx with hx | hx
        · exact sm.2.1 x (List.mem_of_mem_take hx)
        · simp at hx; subst hx; exact ⟨ofS_fair "A", by decide +kernel⟩) (by simp; omega)
      simp [-e_newK, -addP_loc, -e_lstO, -listP_ap, -slP_loc, -revP_loc, -e_dictM] at f
      simp [e6, -e_newK, -addP_loc, -e_lstO, -listP_ap, -slP_loc, -revP_loc, -e_dictM]
      exact f
  · have hra := sm.2.2
    have hcnt := p.cnt d hdm
    have g0 : ¬ lot = 1 := by omega
    have g2 : ¬ lot = 2 := by omega
    have g3 : ¬ lot = 3 := by omega
    have g4' : ¬ lot = 4 := by omega
    simp [e4, g0, g2, g3, g4', hlot, -e_newK, -addP_loc, -e_lstO, -listP_ap, -slP_loc, -revP_loc, -e_dictM]
    refine law_each_wp (Rw.Alls_fairs (fun _ h => h.1) hra) (by have := p.dep d hdm; omega) (by omega) ?_
    intro n5 S5 e5 k5 g5
    have lk5 := k5.1
    simp [e5, pvs_len, -e_newK, -addP_loc, -e_lstO, -listP_ap, -slP_loc, -revP_loc, -e_dictM]
    have hM : 0 < (if (1 : Int) < ((Rw.eachs d.2.2).length : Int) then ((Rw.eachs d.2.2).length : Int) else 1) ∧ (if (1 : Int) < ((Rw.eachs d.2.2).length : Int) then ((Rw.eachs d.2.2).length : Int) else 1) ≤ 60 := by
      split <;> omega
    generalize (if (1 : Int) < ((Rw.eachs d.2.2).length : Int) then ((Rw.eachs d.2.2).length : Int) else 1) = M at hM ⊢
    refine draw_wp (T4.keep k5 (by simp) (by simp)) (by omega) (by omega) (by omega) ?_
    intro w S6 w0 w1 T6 k6
    simp [-e_newK, -addP_loc, -e_lstO, -listP_ap, -slP_loc, -revP_loc, -e_dictM]
    refine lst_wp (by simp) ?_
    intro la S7 e7 k7 g7
    have lk7 := k7.1
    simp [-e_newK, -addP_loc, -e_lstO, -listP_ap, -slP_loc, -revP_loc, -e_dictM]
    have lk5 := k5.1
    have lk6 := k6.1
    have lln := lt_of_get n4
    have lso := lt_of_get e4
    have n7 : S7[nl]? = some (.lst (stL (ds.map (·.1)))) := k7.get (k6.get (k5.get n4 (by simp)) (by simp; omega)) (by simp)
    have e47 : S7[so]? = some (.lst (ds.map Df.pv)) := k7.get (k6.get (k5.get e4 (by simp)) (by simp; omega)) (by simp)
    have kk7 : Keep [t, g] S S7 := ((kS4.trans (k5.mono (by simp))).trans k6).trans (k7.mono (by simp))
    refine rows_spoilt_wp 6 (m := 5 + j) (by have := p.dep d hdm; omega) (T6.keep k7 (by simp) (by simp)) (by omega) n7 hnames hnl (by omega) e7 (by omega) hra (by omega) (fun q hq => by have := p.ins d hdm q hq; omega) (by omega) ?_
    intro rs' v' S8 sr a8 T8 k8
    have lk7 := k7.1
    have k8' : Keep [t, g] S S8 := (Keep.refl (M := [t, g]) (S := S)).step kk7 (by simp) |>.step k8 (by intro x hx hlt; simp at hx ⊢; omega)
    have f := fin (d.1, d.2.1, rs') S8 sm.1 sm.2.1 sr.nm (by rw [sr.dep]; exact p.dep d hdm) (by rw [sr.cnt]; exact hcnt) hpl (fun r hr => by have := sr.ins (p.ins d hdm) r hr; omega) (T8.up (by omega)) (k8.get e47 (by simp; omega)) k8'
    simp [-e_newK, -addP_loc, -e_lstO, -listP_ap, -slP_loc, -revP_loc, -e_dictM] at f
    simp [-e_newK, -addP_loc, -e_lstO, -listP_ap, -slP_loc, -revP_loc, -e_dictM]
    exact f
end K02
namespace K02
open PySem PySem.Spec PyProof.Rows L2 PL
theorem refused_wp {j dl : Nat} {ds : List Df} {S : Sto} {P : PV → Sto → Prop} {R : Str → PV → Sto → Prop} (hd : S[dl]? = some (.lst (ds.map Df.pv))) (p : SP j ds) (hj : j ≤ 10)
    (h : dueOf ds = none → ∀ S', Keep [] S S' → P .non S') (h0 : ∀ w, dueOf ds = some w → ∀ n S', S'[n]? = some (.lst [w, .bl true, .bl true, .bl false]) → Keep [] S S' → P (.loc n) S') : wp (m__law_refused [.loc dl] S) P R := by
  unfold m__law_refused
  rw [callS_wp]
  simp [startE, -e_newK, -addP_loc, -e_lstO, -listP_ap, -slP_loc, -revP_loc, -e_dictM]
  refine make_wp (ds := ds) hd (p.sized hj) (fun d hd => (p.fair d hd).2.1) ?_ ?_
  · intro hdu pl n0 S2 q1 q2 q3 q4 k2
    simp [-e_newK, -addP_loc, -e_lstO, -listP_ap, -slP_loc, -revP_loc, -e_dictM]
    exact h hdu S2 k2
  · intro w hw S2 k2
    simp [List.lookup, -e_newK, -addP_loc, -e_lstO, -listP_ap, -slP_loc, -revP_loc, -e_dictM]
    exact h0 w hw _ _ app_new (k2.trans .app)
theorem errors_wp {n : Nat} {S : Sto} {P : PV → Sto → Prop} {R : Str → PV → Sto → Prop} (h : P (.bl true) S) : wp (m__law_errors_right [.int n] S) P R := by
  unfold m__law_errors_right
  rw [callS_wp]
  have e1 : eqB (.tup [.str (Str.ofString "a"), .int n]) (.tup [.str (Str.ofString "a"), .int n]) S = some true := by
    obtain ⟨b, h1, h2⟩ := eqB_plain (S := S) (n := 3) (by decide) (p := .tup [.str (Str.ofString "a"), .int n]) (q := .tup [.str (Str.ofString "a"), .int n]) (by simp only [Pl, PlL]; exact ⟨ofS_fair "a", trivial, trivial⟩) (by simp only [Pl, PlL]; exact ⟨ofS_fair "a", trivial, trivial⟩)
    rw [h1, h2.mpr rfl]
  have e2 : eqB (.tup [.str (Str.ofString "a"), .int 1, .str (Str.ofString "b"), .int 2]) (.tup [.str (Str.ofString "a"), .int 1, .str (Str.ofString "b"), .int 2]) S = some true := by
    obtain ⟨b, h1, h2⟩ := eqB_plain (S := S) (n := 3) (by decide) (p := .tup [.str (Str.ofString "a"), .int 1, .str (Str.ofString "b"), .int 2]) (q := .tup [.str (Str.ofString "a"), .int 1, .str (Str.ofString "b"), .int 2]) (by simp only [Pl, PlL]; exact ⟨ofS_fair "a", trivial, ofS_fair "b", trivial, trivial⟩) (by simp only [Pl, PlL]; exact ⟨ofS_fair "a", trivial, ofS_fair "b", trivial, trivial⟩)
    rw [h1, h2.mpr rfl]
  simp [startE, e1, e2, -e_newK, -addP_loc, -e_lstO, -listP_ap, -slP_loc, -revP_loc, -e_dictM]
  exact h
theorem eqB_same {n : Nat} {l k : Nat} {xs : List PV} {S : Sto} (hn : n < 64) (hl : S[l]? = some (.lst xs)) (hk : S[k]? = some (.lst xs)) (hp : ∀ x ∈ xs, PlB n x) : eqB (.loc l) (.loc k) S = some true := by
  obtain ⟨d, h1, h2, h3, h7⟩ := PlB.toDL hp
  unfold eqB
  have hd : SeqAt.shaped (.list d) = true := shaped_of h2 (by show PyData.depthAll d + 1 ≤ 64; omega)
  simp only [toDS, hl, hk, h1, Option.map_some, hd, and_self, if_true]
  have := SeqAt.eqvAll_refl d h2
  simp [PyData.eqv, this]
theorem fault_mem {hs : List Hd} {x : Str} : ∀ (ds : List Df) (met : List Str), faultAt hs met ds = some x → ∃ d ∈ ds, d.1 = x
  | [], met, h => by cases h
  | d :: ds, met, h => by
    rw [faultAt_cons] at h
    split at h
    · obtain ⟨e, he, hx⟩ := fault_mem ds _ h
      exact ⟨e, by simp [he], hx⟩
    · cases h; exact ⟨d, by simp, rfl⟩
theorem due_plB {j : Nat} {ds : List Df} {w : PV} (p : SP j ds) (h : dueOf ds = some w) : PlB 0 w := by
  unfold dueOf at h
  split at h
  · rename_i x hx
    cases h
    obtain ⟨d, hd, rfl⟩ := fault_mem _ _ hx
    exact .inl ((p.nm d hd).1.1.pl 0)
  · split at h
    · cases h
    · cases h; exact .inl (by simp [Pl])
theorem main : LawMain 63 m_law := by
  intro ns hn
  unfold m_law
  rw [callS_wp]
  simp [startE, -e_newK, -addP_loc, -e_lstO, -listP_ap, -slP_loc, -revP_loc, -e_dictM]
  refine tray_wp hn ?_
  intro t g S T
  have hnl : (ns.map PV.int).length = ns.length := by simp
  simp [hnl, -e_newK, -addP_loc, -e_lstO, -listP_ap, -slP_loc, -revP_loc, -e_dictM]
  refine errors_wp ?_
  have lcut : (cutP (ns.map PV.int) none (some 10)).length ≤ 63 := by
    unfold cutP
    simp only [List.length_take, List.length_drop, List.length_map]
    omega
  simp [-e_newK, -addP_loc, -e_lstO, -listP_ap, -slP_loc, -revP_loc, -e_dictM]
  generalize cutP (ns.map PV.int) none (some 10) = cs at *
  have T := T.keep (S' := S ++ [.lst cs]) (M := []) .app (by simp) (by simp)
  generalize S ++ [.lst cs] = S at *
  rw [show (2 + (cs.length : Int)) = ((cs.length + 2 : Nat) : Int) by omega]
  refine ⟨by unfold rngOk; omega, ?_⟩
  refine forR_wp (fun i τ S' => (∃ x2 x3 x4 x5 x6 x7, τ = [some (.fls (ns.map PV.int)), some (.loc t), x2, x3, x4, x5, x6, x7]) ∧ Tray t g (200000 * i) S') ⟨⟨_, _, _, _, _, _, rfl⟩, T⟩ ?_ ?_
  · rintro i τ S1 J hi ⟨⟨x2, x3, x4, x5, x6, x7, rfl⟩, T1⟩ hJ
    refine ⟨by simp, _, rfl, ?_⟩
    simp [-e_newK, -addP_loc, -e_lstO, -listP_ap, -slP_loc, -revP_loc, -e_dictM]
    refine draw_wp T1 (by omega) (by omega) (by omega) ?_
    intro w S2 w0 w1 T2 k2
    simp [-e_newK, -addP_loc, -e_lstO, -listP_ap, -slP_loc, -revP_loc, -e_dictM]
    refine program_wp T2 (by omega) (by omega) (by omega) ?_
    intro so ds S3 e3 g3 p3 p3l T3 k3
    have ltT2 := T2.lt
    simp [-e_newK, -addP_loc, -e_lstO, -listP_ap, -slP_loc, -revP_loc, -e_dictM]
    refine draw_wp T3 (by omega) (by omega) (by omega) ?_
    intro w4 S4 u0 u1 T4 k4
    obtain ⟨m, rfl⟩ : ∃ m : Nat, w4 = (m : Int) := ⟨w4.toNat, by omega⟩
    simp [-e_newK, -addP_loc, -e_lstO, -listP_ap, -slP_loc, -revP_loc, -e_dictM]
    refine ⟨by unfold rngOk; omega, ?_⟩
    have e34 := k4.get e3 (by simp; omega)
    refine forR_wp (fun k τ S' => (∃ (so' : Nat) (es : List Df) (y4 : Option PV), τ = [some (.fls (ns.map PV.int)), some (.loc t), some (.int i), some (.loc so'), y4, x5, x6, x7] ∧ S'[so']? = some (.lst (es.map Df.pv)) ∧ (so' ≠ t ∧ so' ≠ g) ∧ SP k es) ∧ Tray t g (200000 * i + 100002 + 300 * k) S') ⟨⟨so, ds, _, rfl, e34, by omega, p3.np.sp⟩, T4.up (by omega)⟩ ?_ ?_
    · rintro k τ S5 J5 hk ⟨⟨so', es, y4, rfl, e5, hso, p5⟩, T5⟩ hJ5
      refine ⟨by simp, _, rfl, ?_⟩
      simp [-e_newK, -addP_loc, -e_lstO, -listP_ap, -slP_loc, -revP_loc, -e_dictM]
      refine spoilt_wp T5 (by omega) e5 hso p5 (by omega) ?_
      intro n6 fs S6 e6 h6 p6 T6 k6
      simp [-e_newK, -addP_loc, -e_lstO, -listP_ap, -slP_loc, -revP_loc, -e_dictM]
      exact hJ5 _ _ ⟨⟨n6, fs, _, rfl, e6, h6, p6⟩, T6.up (by omega)⟩
    · rintro τ S5 ⟨⟨so', es, y4, rfl, e5, hso, p5⟩, T5⟩
      refine ⟨by simp, ?_⟩
      have T5 := T5.up (B' := 200000 * (i + 1)) (by omega)
      simp [-e_newK, -addP_loc, -e_lstO, -listP_ap, -slP_loc, -revP_loc, -e_dictM]
      refine due_wp e5 p5 (by omega) ?_
      intro dn S6 e6 k6 g6
      simp [-e_newK, -addP_loc, -e_lstO, -listP_ap, -slP_loc, -revP_loc, -e_dictM]
      refine list_wp (xs := es.map Df.pv) (by simp [itemsP, k6.get e5 (by simp)]) ?_
      intro hn7 S7 e7 k7 g7
      have lk7 := k7.1
      simp [-e_newK, -addP_loc, -e_lstO, -listP_ap, -slP_loc, -revP_loc, -e_dictM]
      have e57 : S7[so']? = some (.lst (es.map Df.pv)) := k7.get (k6.get e5 (by simp)) (by simp)
      have e67 : S7[dn]? = some (.lst (dueL es)) := k7.get e6 (by simp)
      have T7 := (T5.keep k6 (by simp) (by simp)).keep k7 (by simp) (by simp)
      refine refused_wp e7 p5 (by omega) ?_ ?_
      · intro hdu S8 k8
        have hsame := eqB_same (n := 20) (S := S8) (by decide) (k8.get e7 (by simp)) (k8.get e57 (by simp)) (fun x hx => .inl (PlL_iff.mp p5.pl x hx))
        have e68 : S8[dn]? = some (.lst []) := by have := k8.get e67 (by simp); simpa [dueL, hdu] using this
        simp [hsame, -e_newK, -addP_loc, -e_lstO, -listP_ap, -slP_loc, -revP_loc, -e_dictM]
        refine lst_wp (by simp) ?_
        intro n9 S9 e9 k9 g9
        have lk9 := k9.1
        have hb := eqB_lnil (n := 0) (S := S9) (by decide) (k9.get e68 (by simp)) e9 (by simp)
        simp [hb, -e_newK, -addP_loc, -e_lstO, -listP_ap, -slP_loc, -revP_loc, -e_dictM]
        refine lst_wp (by simp) ?_
        intro n10 S10 e10 k10 g10
        have lk10 := k10.1
        have hb2 := eqB_lnil (n := 0) (S := S10) (by decide) (k10.get (k9.get e68 (by simp)) (by simp)) e10 (by simp)
        simp [hb2, -e_newK, -addP_loc, -e_lstO, -listP_ap, -slP_loc, -revP_loc, -e_dictM]
        exact hJ _ _ ⟨⟨_, _, _, _, _, _, rfl⟩, ((T7.keep k8 (by simp) (by simp)).keep k9 (by simp) (by simp)).keep k10 (by simp) (by simp)⟩
      · intro w' hw n8 S8 e8 k8
        have hsame := eqB_same (n := 20) (S := S8) (by decide) (k8.get e7 (by simp)) (k8.get e57 (by simp)) (fun x hx => .inl (PlL_iff.mp p5.pl x hx))
        have hpw := due_plB p5 hw
        have e68 : S8[dn]? = some (.lst [w']) := by have := k8.get e67 (by simp); simpa [dueL, hw] using this
        simp [hsame, -e_newK, -addP_loc, -e_lstO, -listP_ap, -slP_loc, -revP_loc, -e_dictM]
        refine lst_wp (by simp) ?_
        intro n9 S9 e9 k9 g9
        have lk9 := k9.1
        have hb := eqB_lnil (n := 0) (S := S9) (by decide) (k9.get e68 (by simp)) e9 (by simpa using hpw)
        simp [hb, -e_newK, -addP_loc, -e_lstO, -listP_ap, -slP_loc, -revP_loc, -e_dictM]
        refine lst_wp (by simp) ?_
        intro n10 S10 e10 k10 g10
        have lk10 := k10.1
        have e610 := k10.get (k9.get e68 (by simp)) (by simp)
        have hb2 := eqB_lnil (n := 0) (S := S10) (by decide) e610 e10 (by simpa using hpw)
        simp [hb2, -e_newK, -addP_loc, -e_lstO, -listP_ap, -slP_loc, -revP_loc, -e_dictM]
        refine lst_wp (by simp) ?_
        intro n11 S11 e11 k11 g11
        have lk11 := k11.1
        simp [-e_newK, -addP_loc, -e_lstO, -listP_ap, -slP_loc, -revP_loc, -e_dictM]
        refine addL_wp (k11.get e610 (by simp)) e11 (by simp) ?_
        intro n12 S12 e12 k12 g12
        have lk12 := k12.1
        have e812 : S12[n8]? = some (.lst [w', .bl true, .bl true, .bl false]) := k12.get (k11.get (k10.get (k9.get e8 (by simp)) (by simp)) (by simp)) (by simp)
        have hb3 := eqB_same (n := 0) (S := S12) (by decide) e812 (by simpa using e12) (fun x hx => by
          simp only [List.mem_cons, List.not_mem_nil, or_false] at hx
          rcases hx with rfl | rfl | rfl | rfl
          · exact hpw
          · exact .inr ⟨_, rfl⟩
          · exact .inr ⟨_, rfl⟩
          · exact .inr ⟨_, rfl⟩)
        simp [hb3, -e_newK, -addP_loc, -e_lstO, -listP_ap, -slP_loc, -revP_loc, -e_dictM]
        exact hJ _ _ ⟨⟨_, _, _, _, _, _, rfl⟩, ((((T7.keep k8 (by simp) (by simp)).keep k9 (by simp) (by simp)).keep k10 (by simp) (by simp)).keep k11 (by simp) (by simp)).keep k12 (by simp) (by simp)⟩
  · rintro τ S1 ⟨⟨x2, x3, x4, x5, x6, x7, rfl⟩, T1⟩
    refine ⟨by simp, ?_⟩
    simp
end K02
open PySem PySem.W PyProof.Rows
set_option maxHeartbeats 0 in
theorem PySem.Challenge.cw_codeasks_k02_no_program_holds : PySem.Challenge.rw_codeasks_k02_no_program.Holds := by
  w_on; o_law; k_head; (case hw => w_witness2)
  k_fill
  refine L2.walk_of (l := PySem.Challenge.rw_codeasks_k02_no_program) (n := 63) (k := 15) (x := "_law_script") (CX := fun w => L2.CX PySem.Challenge.rw_codeasks_k02_no_program.prog w) (sp := fun w => PL.spLaw _ 63) rfl (by decide) rfl ⟨rfl, by decide, by decide⟩ (fun w h Y => PySem.W.kIn_of Y) ?F (fun w H a ns hl hO hS => PL.spLaw_end hl hO hS) (fun w H s e s' h => PL.cx_end h)
  case F =>
    intro w mg fa h KX G hmg
    refine' K02.law_facts K02.main (w := w) KX G hmg ?l_is_name ?c_is_name ?k_is_name ?a_is_name ?l_each_row ?c_each_row ?k_each_row ?a_each_row ?l_names_asked ?c_names_asked ?k_names_asked ?a_names_asked ?l_call_of ?c_call_of ?k_call_of ?a_call_of ?l_names_in ?c_names_in ?k_names_in ?a_names_in ?l_is_sound ?c_is_sound ?k_is_sound ?a_is_sound ?l_Program_init ?c_Program_init ?k_Program_init ?l__law_tray ?c__law_tray ?k__law_tray ?a__law_tray ?l__law_draw ?c__law_draw ?k__law_draw ?a__law_draw ?l__law_great ?c__law_great ?k__law_great ?a__law_great ?l__law_name ?c__law_name ?k__law_name ?a__law_name ?l__law_names ?c__law_names ?k__law_names ?a__law_names ?l__law_whole ?c__law_whole ?k__law_whole ?a__law_whole ?l__law_value ?c__law_value ?k__law_value ?a__law_value ?l__law_row ?c__law_row ?k__law_row ?a__law_row ?l__law_rows ?c__law_rows ?k__law_rows ?a__law_rows ?l__law_program ?c__law_program ?k__law_program ?a__law_program ?l__law_each ?c__law_each ?k__law_each ?a__law_each ?l__law_is_name ?c__law_is_name ?k__law_is_name ?a__law_is_name ?l__law_in_row ?c__law_in_row ?k__law_in_row ?a__law_in_row ?l__law_is_faulty ?c__law_is_faulty ?k__law_is_faulty ?a__law_is_faulty ?l__law_due ?c__law_due ?k__law_due ?a__law_due ?l__law_bad_name ?c__law_bad_name ?k__law_bad_name ?a__law_bad_name ?l__law_row_spoilt ?c__law_row_spoilt ?k__law_row_spoilt ?a__law_row_spoilt ?l__law_rows_spoilt ?c__law_rows_spoilt ?k__law_rows_spoilt ?a__law_rows_spoilt ?l__law_spoilt ?c__law_spoilt ?k__law_spoilt ?a__law_spoilt ?l__law_refused ?c__law_refused ?k__law_refused ?a__law_refused ?l__law_errors_right ?c__law_errors_right ?k__law_errors_right ?a__law_errors_right ?l_law ?c_law ?k_law ?a_law ?a_Program ?pg_Program ?hd_Program ?po_Program ?sa_Program ?mk_Program ?kc_Program ?at_Program_init ?i_Program_init ?na_definitions_kept ?l_einit ?c_einit ?k_einit ?ti_einit ?cg ?cta ?a_NoProgram ?xl_NoProgram ?rv_NoProgram ?sa_NoProgram ?be_NoProgram ?ty_NoProgram ?kp_NoProgram ?at_xNoProgram ?wn_NoProgram ?hx_NoProgram ?ga_NoProgram ?gg_NoProgram ?cl_NoProgram ?mo_NoProgram ?a_AskError ?xl_AskError ?rv_AskError ?sa_AskError ?be_AskError ?ty_AskError ?kp_AskError ?at_xAskError ?wn_AskError ?hx_AskError ?a_NoText ?xl_NoText ?rv_NoText ?sa_NoText ?be_NoText ?ty_NoText ?kp_NoText ?at_xNoText ?wn_NoText ?hx_NoText ?ga_NoText ?gg_NoText ?cl_NoText ?mo_NoText ?a_NoRules ?xl_NoRules ?rv_NoRules ?sa_NoRules ?be_NoRules ?ty_NoRules ?kp_NoRules ?at_xNoRules ?wn_NoRules ?hx_NoRules ?ga_NoRules ?gg_NoRules ?cl_NoRules ?mo_NoRules ?a_NoRelation ?xl_NoRelation ?rv_NoRelation ?sa_NoRelation ?be_NoRelation ?ty_NoRelation ?kp_NoRelation ?at_xNoRelation ?wn_NoRelation ?hx_NoRelation ?ga_NoRelation ?gg_NoRelation ?cl_NoRelation ?mo_NoRelation ?a_NoPlace ?xl_NoPlace ?rv_NoPlace ?sa_NoPlace ?be_NoPlace ?ty_NoPlace ?kp_NoPlace ?at_xNoPlace ?wn_NoPlace ?hx_NoPlace ?ga_NoPlace ?gg_NoPlace ?cl_NoPlace ?mo_NoPlace ?a_NoFinding ?xl_NoFinding ?rv_NoFinding ?sa_NoFinding ?be_NoFinding ?ty_NoFinding ?kp_NoFinding ?at_xNoFinding ?wn_NoFinding ?hx_NoFinding ?ga_NoFinding ?gg_NoFinding ?cl_NoFinding ?mo_NoFinding ?ne_NoProgram_AskError ?ne_NoProgram_NoFinding ?ne_NoProgram_NoPlace ?ne_NoProgram_NoRelation ?ne_NoProgram_NoRules ?ne_NoProgram_NoText ?sub_NoProgram_NoProgram ?sub_NoProgram_AskError ?sub_NoProgram_ValueError ?sub_NoProgram_NoFinding ?sub_NoProgram_NoPlace ?sub_NoProgram_NoRelation ?sub_NoProgram_NoRules ?sub_NoProgram_NoText ?c_LETTERS ?c_MOST_LETTERS ?c_MAIN ?n_ValueError ?n_all ?n_dict ?n_isinstance ?n_len ?n_list ?n_max ?n_min ?n_range ?n_set ?n_tuple
    (case a_is_name => k_is)
    (case a_each_row => k_is)
    (case a_names_asked => k_is)
    (case a_call_of => k_is)
    (case a_names_in => k_is)
    (case a_is_sound => k_is)
    (case a__law_tray => k_is)
    (case a__law_draw => k_is)
    (case a__law_great => k_is)
    (case a__law_name => k_is)
    (case a__law_names => k_is)
    (case a__law_whole => k_is)
    (case a__law_value => k_is)
    (case a__law_row => k_is)
    (case a__law_rows => k_is)
    (case a__law_program => k_is)
    (case a__law_each => k_is)
    (case a__law_is_name => k_is)
    (case a__law_in_row => k_is)
    (case a__law_is_faulty => k_is)
    (case a__law_due => k_is)
    (case a__law_bad_name => k_is)
    (case a__law_row_spoilt => k_is)
    (case a__law_rows_spoilt => k_is)
    (case a__law_spoilt => k_is)
    (case a__law_refused => k_is)
    (case a__law_errors_right => k_is)
    (case a_law => k_is)
    (case a_Program => k_is)
    (case a_NoProgram => k_is)
    (case a_AskError => k_is)
    (case a_NoText => k_is)
    (case a_NoRules => k_is)
    (case a_NoRelation => k_is)
    (case a_NoPlace => k_is)
    (case a_NoFinding => k_is)
    (case at_Program_init => k_is)
    (case at_xNoProgram => k_is)
    (case at_xAskError => k_is)
    (case at_xNoText => k_is)
    (case at_xNoRules => k_is)
    (case at_xNoRelation => k_is)
    (case at_xNoPlace => k_is)
    (case at_xNoFinding => k_is)
    (case l_is_name => k_is)
    (case l_each_row => k_is)
    (case l_names_asked => k_is)
    (case l_call_of => k_is)
    (case l_names_in => k_is)
    (case l_is_sound => k_is)
    (case l_Program_init => k_is)
    (case l__law_tray => k_is)
    (case l__law_draw => k_is)
    (case l__law_great => k_is)
    (case l__law_name => k_is)
    (case l__law_names => k_is)
    (case l__law_whole => k_is)
    (case l__law_value => k_is)
    (case l__law_row => k_is)
    (case l__law_rows => k_is)
    (case l__law_program => k_is)
    (case l__law_each => k_is)
    (case l__law_is_name => k_is)
    (case l__law_in_row => k_is)
    (case l__law_is_faulty => k_is)
    (case l__law_due => k_is)
    (case l__law_bad_name => k_is)
    (case l__law_row_spoilt => k_is)
    (case l__law_rows_spoilt => k_is)
    (case l__law_spoilt => k_is)
    (case l__law_refused => k_is)
    (case l__law_errors_right => k_is)
    (case l_law => k_is)
    (case l_einit => k_is)
    (case c_is_name => k_is)
    (case k_is_name => k_is)
    (case c_each_row => k_is)
    (case k_each_row => k_is)
    (case c_names_asked => k_is)
    (case k_names_asked => k_is)
    (case c_call_of => k_is)
    (case k_call_of => k_is)
    (case c_names_in => k_is)
    (case k_names_in => k_is)
    (case c_is_sound => k_is)
    (case k_is_sound => k_is)
    (case c_Program_init => k_is)
    (case k_Program_init => k_is)
    (case c__law_tray => k_is)
    (case k__law_tray => k_is)
    (case c__law_draw => k_is)
    (case k__law_draw => k_is)
    (case c__law_great => k_is)
    (case k__law_great => k_is)
    (case c__law_name => k_is)
    (case k__law_name => k_is)
    (case c__law_names => k_is)
    (case k__law_names => k_is)
    (case c__law_whole => k_is)
    (case k__law_whole => k_is)
    (case c__law_value => k_is)
    (case k__law_value => k_is)
    (case c__law_row => k_is)
    (case k__law_row => k_is)
    (case c__law_rows => k_is)
    (case k__law_rows => k_is)
    (case c__law_program => k_is)
    (case k__law_program => k_is)
    (case c__law_each => k_is)
    (case k__law_each => k_is)
    (case c__law_is_name => k_is)
    (case k__law_is_name => k_is)
    (case c__law_in_row => k_is)
    (case k__law_in_row => k_is)
    (case c__law_is_faulty => k_is)
    (case k__law_is_faulty => k_is)
    (case c__law_due => k_is)
    (case k__law_due => k_is)
    (case c__law_bad_name => k_is)
    (case k__law_bad_name => k_is)
    (case c__law_row_spoilt => k_is)
    (case k__law_row_spoilt => k_is)
    (case c__law_rows_spoilt => k_is)
    (case k__law_rows_spoilt => k_is)
    (case c__law_spoilt => k_is)
    (case k__law_spoilt => k_is)
    (case c__law_refused => k_is)
    (case k__law_refused => k_is)
    (case c__law_errors_right => k_is)
    (case k__law_errors_right => k_is)
    (case c_law => k_is)
    (case k_law => k_is)
    (case pg_Program => k_is)
    (case hd_Program => k_is)
    (case po_Program => k_is)
    (case sa_Program => k_is)
    (case mk_Program => k_is)
    (case kc_Program => k_is)
    (case i_Program_init => k_is)
    (case na_definitions_kept => k_is)
    (case c_einit => k_is)
    (case k_einit => k_is)
    (case ti_einit => k_is)
    (case cg => k_is)
    (case cta => k_is)
    (case xl_NoProgram => k_is)
    (case rv_NoProgram => first | rfl | decide +kernel)
    (case sa_NoProgram => k_is)
    (case be_NoProgram => k_is)
    (case ty_NoProgram => k_is)
    (case kp_NoProgram => k_is)
    (case wn_NoProgram => k_is)
    (case hx_NoProgram => k_is)
    (case ga_NoProgram => k_is)
    (case gg_NoProgram => k_is)
    (case cl_NoProgram => k_is)
    (case mo_NoProgram => k_is)
    (case xl_AskError => k_is)
    (case rv_AskError => first | rfl | decide +kernel)
    (case sa_AskError => k_is)
    (case be_AskError => k_is)
    (case ty_AskError => k_is)
    (case kp_AskError => k_is)
    (case wn_AskError => k_is)
    (case hx_AskError => k_is)
    (case xl_NoText => k_is)
    (case rv_NoText => first | rfl | decide +kernel)
    (case sa_NoText => k_is)
    (case be_NoText => k_is)
    (case ty_NoText => k_is)
    (case kp_NoText => k_is)
    (case wn_NoText => k_is)
    (case hx_NoText => k_is)
    (case ga_NoText => k_is)
    (case gg_NoText => k_is)
    (case cl_NoText => k_is)
    (case mo_NoText => k_is)
    (case xl_NoRules => k_is)
    (case rv_NoRules => first | rfl | decide +kernel)
    (case sa_NoRules => k_is)
    (case be_NoRules => k_is)
    (case ty_NoRules => k_is)
    (case kp_NoRules => k_is)
    (case wn_NoRules => k_is)
    (case hx_NoRules => k_is)
    (case ga_NoRules => k_is)
    (case gg_NoRules => k_is)
    (case cl_NoRules => k_is)
    (case mo_NoRules => k_is)
    (case xl_NoRelation => k_is)
    (case rv_NoRelation => first | rfl | decide +kernel)
    (case sa_NoRelation => k_is)
    (case be_NoRelation => k_is)
    (case ty_NoRelation => k_is)
    (case kp_NoRelation => k_is)
    (case wn_NoRelation => k_is)
    (case hx_NoRelation => k_is)
    (case ga_NoRelation => k_is)
    (case gg_NoRelation => k_is)
    (case cl_NoRelation => k_is)
    (case mo_NoRelation => k_is)
    (case xl_NoPlace => k_is)
    (case rv_NoPlace => first | rfl | decide +kernel)
    (case sa_NoPlace => k_is)
    (case be_NoPlace => k_is)
    (case ty_NoPlace => k_is)
    (case kp_NoPlace => k_is)
    (case wn_NoPlace => k_is)
    (case hx_NoPlace => k_is)
    (case ga_NoPlace => k_is)
    (case gg_NoPlace => k_is)
    (case cl_NoPlace => k_is)
    (case mo_NoPlace => k_is)
    (case xl_NoFinding => k_is)
    (case rv_NoFinding => first | rfl | decide +kernel)
    (case sa_NoFinding => k_is)
    (case be_NoFinding => k_is)
    (case ty_NoFinding => k_is)
    (case kp_NoFinding => k_is)
    (case wn_NoFinding => k_is)
    (case hx_NoFinding => k_is)
    (case ga_NoFinding => k_is)
    (case gg_NoFinding => k_is)
    (case cl_NoFinding => k_is)
    (case mo_NoFinding => k_is)
    (case ne_NoProgram_AskError => first | rfl | decide +kernel)
    (case ne_NoProgram_NoFinding => first | rfl | decide +kernel)
    (case ne_NoProgram_NoPlace => first | rfl | decide +kernel)
    (case ne_NoProgram_NoRelation => first | rfl | decide +kernel)
    (case ne_NoProgram_NoRules => first | rfl | decide +kernel)
    (case ne_NoProgram_NoText => first | rfl | decide +kernel)
    (case sub_NoProgram_NoProgram => k_is)
    (case sub_NoProgram_AskError => k_is)
    (case sub_NoProgram_ValueError => k_is)
    (case sub_NoProgram_NoFinding => k_is)
    (case sub_NoProgram_NoPlace => k_is)
    (case sub_NoProgram_NoRelation => k_is)
    (case sub_NoProgram_NoRules => k_is)
    (case sub_NoProgram_NoText => k_is)
    (case c_LETTERS => k_is)
    (case c_MOST_LETTERS => k_is)
    (case c_MAIN => k_is)
    (case n_ValueError => k_is)
    (case n_all => k_is)
    (case n_dict => k_is)
    (case n_isinstance => k_is)
    (case n_len => k_is)
    (case n_list => k_is)
    (case n_max => k_is)
    (case n_min => k_is)
    (case n_range => k_is)
    (case n_set => k_is)
    (case n_tuple => k_is)
