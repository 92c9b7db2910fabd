import PyProof.Rows.All
import Wide.All
import OpenK.AllK
import Wide.FinOn
import HandS.Call
import HandS.List
import HandS.TupAny
import HandS.Iter
import HandS.Base
import HandS.Comp
import HandS.Exc
import HandS.ExcOwn
import HandS.Wide
import HandS.Text
import HandS.Flow
import HandS.Dict
import HandS.Deep
import HandS.Conv
import HandS.WordsDict
import HandS.More
import HandS.SetKeys
import HandS.IsInst
import HandS.CallSlots
import HandS.Style
import HandS.ExcInit
import HandS.TryOnly
import HandS.WordsExc
import HandS.MakeKw
import HandS.RaiseFrom
import HandS.Strs
import HandS.ExcField
import HandS.ExcIs
import KE.KExcIs
import HandS.Sort
import HandS.TupMul
import HandS.Replace
import HandS.Codes
import PyProof.Rows.StrJoinRep
import HandS.OwnEq
import HandS.TupSets
import KE.KSortTupAny
import HandS.SortRule
import HandS.SortInts
import KE.GoesEnum
import KE.GoesZip
import KE.GoesMore
import KE.KRevSl
import KE.KUnpackStar
import HandS.Small
import PySem.Challenge.RW_codeasks_k15_what_comes_behind
set_option Elab.async false
set_option linter.all false
set_option maxRecDepth 100000
/-! PLFz: tuples made, the very object kept in mind: it has no dict. -/
namespace PLz
open PySem PySem.Spec PyProof.Rows L2
/-- the heap with a new tuple at p -/
def NewT (H : Hp) (p : Addr) (xs : List V) (Q : Hp → Prop) : Prop := ∀ o : Obj, o.dict = none → Q (upd H p (.frz o (.tup xs)))
section
variable {X : Cx} {es : List Expr} {pos : Pos}
def tTupZ (t : TA) : TE := fun σ H Q => t σ H fun xs H1 => xs.length ≤ sizeLine ∧ ∀ p, H1 p = none → NewT H1 p xs (Q (.ref p))
theorem pe_tupZ {x1} {t : TA} (h : PA X es t) : PE X (.Tuple es x1 pos) (tTupZ t) := by
  refine ⟨fun pins s σ H Q I hq => ?_⟩
  refine wpAny_Tuple_spliced (thn (h.run pos pins s σ H _ I hq) fun us s1 ⟨xs, H1, I1, r, z, q⟩ => ⟨by rw [← r.length]; exact z, ?_⟩)
  have hf : H1 s1.heap.objs.size = none := I1.hok.fresh (Nat.le_refl _)
  refine ⟨.ref s1.heap.objs.size, upd H1 s1.heap.objs.size (.frz { cls := .type "tuple", data := .seq us.toArray } (.tup xs)), I1.laid (t' := s1.toks) (fun b u e => Heap.get?_push_of_some _ e) (Nat.le_refl _) ?_, rfl, q _ hf _ rfl⟩
  exact ⟨Heap.get?_push_size _ rfl, z, us, r, ⟨_, Heap.get?_push_size _ rfl, rfl, _, rfl⟩⟩
def rSlTZ (K : PySem.W.Frag) : V → Option Int → Option Int → Hp → VK → Prop := fun x lo hi H Q => ∃ a xs, x = .ref a ∧ SqT K H a xs ∧
  (HT.sIx xs.length 0 lo = 0 ∧ HT.sIx xs.length xs.length hi = xs.length → Q (.ref a) H) ∧
  (¬ (HT.sIx xs.length 0 lo = 0 ∧ HT.sIx xs.length xs.length hi = xs.length) → ∀ p, H p = none → NewT H p (cutV xs lo hi) (Q (.ref p)))
theorem sl_tupZ : SlR X (rSlTZ X.K) := by
  intro pins s σ H x v vl vu lo hi sl Q I rx hs pl pu h
  obtain ⟨a, xs, rfl, hx, q1, q2⟩ := h
  cases rx
  obtain ⟨its, r, ht, hz⟩ := I.tuple hx
  have hlen : its.toArray.size = xs.length := by rw [List.size_toArray]; exact r.length.symm
  refine ⟨"tuple", _, PyProof.Rows.slot_tuple_getitem.lookup, ht.typeIs, ?_⟩
  by_cases hw : HT.sIx xs.length 0 lo = 0 ∧ HT.sIx xs.length xs.length hi = xs.length
  · exact getItem_tuple_whole ht hs pl pu (by rw [hlen]; exact hw) ⟨.ref a, H, I, rfl, q1 hw⟩
  refine HT.getItem_tuple_cut ht hs pl pu (by rw [hlen]; exact hw) ?_ (by rw [hlen]; exact hz)
  rw [hlen]
  refine ⟨.ref s.heap.objs.size, _, I.laid (t' := s.toks) (o := .frz { cls := .type "tuple", data := .seq ((its.drop (HT.sIx xs.length 0 lo)).take (HT.sIx xs.length xs.length hi - HT.sIx xs.length 0 lo)).toArray } (.tup (cutV xs lo hi))) (fun b ob q => Heap.get?_push_of_some _ q) (Nat.le_refl _) ?_, rfl, q2 hw _ (I.hok.fresh (Nat.le_refl _)) _ rfl⟩
  exact ⟨Heap.get?_push_size _ rfl, Nat.le_trans (cutV_length xs lo hi) hz, _, (r.drop (HT.sIx xs.length 0 lo)).take (HT.sIx xs.length xs.length hi - HT.sIx xs.length 0 lo), IsTup.new _ _⟩
def rCatZ (K : PySem.W.Frag) : R2 := fun x y H Q => ∃ a b xs ys, x = .ref a ∧ y = .ref b ∧ SqT K H a xs ∧ SqT K H b ys ∧ xs.length + ys.length ≤ sizeLine ∧
  (xs = [] → Q (.ref b) H) ∧ (xs ≠ [] → ys = [] → Q (.ref a) H) ∧ (xs ≠ [] → ys ≠ [] → ∀ p, H p = none → NewT H p (xs ++ ys) (Q (.ref p)))
theorem op_catZ : OpR X (binaryOp .Add) (rCatZ X.K) := by
  intro pins s σ H x y v u Q I rx ry h
  obtain ⟨a, b, xs, ys, rfl, rfl, ha, hb, hz, q0, q1, q2⟩ := h
  cases rx
  cases ry
  obtain ⟨its, r1, p1, _⟩ := I.tuple ha
  obtain ⟨its2, r2, p2, _⟩ := I.tuple hb
  by_cases hx : xs = []
  · subst hx
    cases r1
    exact cat_tup0 p1 p2 ⟨.ref b, H, I, rfl, q0 rfl⟩
  refine HT.cat_tup p1 p2 (fun z => hx (r1.nil_iff.mp z)) (fun z => ⟨.ref a, H, I, rfl, q1 hx (r2.nil_iff.mp z)⟩) (fun z => ?_) (by rw [← r1.length, ← r2.length]; exact hz)
  refine ⟨.ref s.heap.objs.size, _, I.laid (t' := s.toks) (o := .frz { cls := .type "tuple", data := .seq (its ++ its2).toArray } (.tup (xs ++ ys))) (fun b ob q => Heap.get?_push_of_some _ q) (Nat.le_refl _) ?_, rfl, q2 hx (fun w => z (r2.nil_iff.mpr w)) _ (I.hok.fresh (Nat.le_refl _)) _ rfl⟩
  exact ⟨Heap.get?_push_size _ rfl, by rw [List.length_append]; exact hz, _, r1.append r2, IsTup.new _ _⟩
theorem call_tupleZ : CallR X (.type "tuple") (fun xs H Q => ∃ p ys, xs = [.ref p] ∧ ((SqL X.K H p ys ∧ ∀ l, H l = none → NewT H l ys (Q (.ref l))) ∨ (SqT X.K H p ys ∧ Q (.ref p) H))) := by
  intro pins s σ H xs us Q I r h
  obtain ⟨p, ys, rfl, h⟩ := h
  obtain ⟨u, rfl, rx⟩ := r.one
  cases rx
  rcases h with ⟨hq, q⟩ | ⟨hq, q⟩
  · obtain ⟨its, r', pl, hz⟩ := I.list hq
    have hlen := r'.length
    refine call_tuple_list pl.isList (fun h' kp => ?_) (by simp only [List.size_toArray] <;> omega)
    have I1 : Inv X pins σ H { s with heap := h' } := I.kept (t' := s.toks) kp
    have I2 : Inv X pins σ (upd H h'.objs.size (.frz { cls := .type "tuple", data := .seq its.toArray } (.tup ys))) { s with heap := h'.push { cls := .type "tuple", data := .seq its.toArray } } :=
      I1.laid (t' := s.toks) (fun b o e => Heap.get?_push_of_some _ e) (Nat.le_refl _) (show ObjOk X.prog X.w _ _ _ (.frz _ (.tup ys)) from ⟨Heap.get?_push_size _ rfl, hz, its, r', IsTup.new _ _⟩)
    exact ⟨.ref h'.objs.size, _, I2, rfl, q _ (I1.hok.fresh (Nat.le_refl _)) _ rfl⟩
  · obtain ⟨its, r', pl, hz⟩ := I.tuple hq
    exact call_tuple_same pl ⟨.ref p, H, I, rfl, q⟩
end
/-! ### enumerate(list) -/
def Itez (K : PySem.W.Frag) (a : Addr) : It :=
  ⟨fun i H => ∃ (xs : List V) (x : V), SqL K H a xs ∧ xs[i]? = some x, fun i H v H' => ∃ T x o, v = .ref T ∧ H T = none ∧ o.dict = none ∧ H' = upd H T (.frz o (.tup [.int (i : Nat), x])) ∧ ∀ xs, SqL K H a xs → xs[i]? = some x, fun i H => ∃ xs : List V, SqL K H a xs ∧ xs.length ≤ i⟩
theorem turn_enumZ {P : Program} {w : World} {K : PySem.W.Frag} {elts : List Expr} {kk : Nat} {tpos : Pos} (a e it : Addr) :
    Turn P w K (.Tuple elts kk tpos) (Itez K a) [e, it] e (fun i h => (∃ old, IsEnum h e it ((i : Nat) : Int) old) ∧ h.IsListIter it a i ∧ e ≠ it) where
  mem := by simp
  obj := (turn_enum (P := P) (w := w) (K := K) (elts := elts) (kk := kk) (tpos := tpos) a e it).obj
  keep := (turn_enum (P := P) (w := w) (K := K) (elts := elts) (kk := kk) (tpos := tpos) a e it).keep
  item := by
    intro X hP hw hK hc i pins s σ H E I hf st hg
    subst hP hw hK
    obtain ⟨⟨old, he⟩, hit, hne⟩ := st
    obtain ⟨xs, x, hq, hx⟩ := hg
    obtain ⟨its, rv, p, hz⟩ := I.list hq
    obtain ⟨u, hu, ru⟩ := rv.get hx
    have hel : e < s.heap.objs.size := Heap.lt_size he
    have hil : it < s.heap.objs.size := by obtain ⟨_, q, _⟩ := hit; exact Heap.lt_size q
    refine wpAny_pyNext_enum_item he hit p.isList (x := u) (by simpa using hu) hne fun h' ho hit' hT hsz hk => ?_
    refine ⟨_, rfl, wpAny_letOwnedTupleGo_enum (s := { s with heap := h', toks := s.toks + 1 }) ho fun h'' he' sb => ?_⟩
    have hT2 : h''.get? s.heap.objs.size = some { cls := .type "tuple", data := .seq #[.int i s.toks, u] } := (sb.2 _ (Nat.ne_of_gt hel)).trans hT
    have new : ObjOk X.prog X.w (upd H s.heap.objs.size (.frz { cls := .type "tuple", data := .seq #[.int i s.toks, u] } (.tup [.int (i : Nat), x]))) h'' s.heap.objs.size (.frz { cls := .type "tuple", data := .seq #[.int i s.toks, u] } (.tup [.int (i : Nat), x])) :=
      ⟨hT2, by show 2 ≤ sizeLine; decide, [.int i s.toks, u], .cons ⟨_, rfl⟩ (.cons ru .nil), ⟨_, hT2, rfl, _, rfl⟩⟩
    have I1 : Inv X pins σ (upd H s.heap.objs.size (.frz { cls := .type "tuple", data := .seq #[.int i s.toks, u] } (.tup [.int (i : Nat), x]))) { s with heap := h'', toks := s.toks + 1 } :=
      I.turnedNew (ch := [e, it]) (fun b ob hb q => (sb.2 b (fun z => hb (by simp [z]))).trans (hk b ob (fun z => hb (by simp [z])) (fun z => hb (by simp [z])) q)) hf (Nat.le_refl _) new
    refine ⟨.ref s.heap.objs.size, _, I1, rfl, ⟨_, x, _, rfl, I.hok.fresh (Nat.le_refl _), rfl, rfl, fun ys hy => by rw [I.list_inj hy hq]; exact hx⟩, ⟨⟨u, ?_⟩, hit'.at fun o q => (sb.2 it (Ne.symm hne)).trans q, hne⟩, fun b hb => ?_⟩
    · have e1 : ((i + 1 : Nat) : Int) = (i : Int) + 1 := by omega
      rw [e1]; exact he'
    · have hb' : b < s.heap.objs.size := by
        have e' : b = e ∨ b = it := by simpa using hb
        rcases e' with z | z
        · rw [z]; exact hel
        · rw [z]; exact hil
      rw [upd_ne (Nat.ne_of_lt hb')]
      exact (hf b hb).1
  done := by
    intro X hP hw hK hc i pins s σ H E I hf st hg
    exact (turn_enum (elts := elts) (kk := kk) (tpos := tpos) a e it).done X hP hw hK hc i pins s σ H E I hf st hg
  self := fun A i s Q E st h => let ⟨⟨_, he⟩, _⟩ := st; wpAny_pyIter_enum he h
def iEnumZ (K : PySem.W.Frag) (ta : TA) : TI := fun σ H R => ta σ H fun vs H1 => ∃ a xs, vs = [.ref a] ∧ SqL K H1 a xs ∧ R (Itez K a) H1
theorem pi_enumZ {X : Cx} {e : Expr} {ta : TA} {p pos tpos : Pos} {elts : List Expr} {kk : Nat} (hg : Gl X "enumerate") (hm : X.mg "enumerate" = none) (ha : PA X [e] ta) (hs : starEach [e] X.env = [(false, eval e X.env)] := by rfl) :
    PI X (.Tuple elts kk tpos) (.Call (.Name "enumerate" p) [e] [] pos) (iEnumZ X.K ta) := by
  refine ⟨fun pins s σ H R I h => ?_⟩
  refine Call_ (ld_blt I hg hm boot_enumerate (PyProof.Rows.callWith_type1 (thn (ha.run pos pins s σ H _ I h) fun us s1 ⟨vs, H1, I1, r1, q1⟩ => ?_) hs rfl))
  obtain ⟨a, xs, ex, hq, q⟩ := q1
  subst ex
  cases r1 with
  | cons r rr =>
    cases rr
    cases r
    obtain ⟨its, rv, p', hz⟩ := I1.list hq
    refine call_enumerate_list p'.isList fun h' he hit hsz hk => wpAny_pyIter_enum he ?_
    have I2 : Inv X pins σ H1 { s1 with heap := h' } := I1.kept (t' := s1.toks) hk
    refine ⟨s1.heap.objs.size + 1, [s1.heap.objs.size + 1, s1.heap.objs.size], _, _, H1, rfl, I2, turn_enumZ a (s1.heap.objs.size + 1) s1.heap.objs.size, ⟨⟨.none, he⟩, hit, Nat.succ_ne_self _⟩, fun b hb => ?_, q⟩
    have e' : b = s1.heap.objs.size + 1 ∨ b = s1.heap.objs.size := by simpa using hb
    have hle : s1.heap.objs.size ≤ b := by
      rcases e' with z | z
      · rw [z]; exact Nat.le_add_right _ _
      · rw [z]; exact Nat.le_refl _
    exact I1.fpOk hle (I1.hok.fresh hle)
end PLz
/-! PLA: pure values, the store, outcomes, the relation to the abstract heap. -/
namespace PL
open PySem PySem.Spec PyProof.Rows L2

/-- a value: tuples are pure; loc l is the l-th object of the store; fls is a list that stands still -/
inductive PV where
  | non | bl (b : Bool) | int (i : Int) | str (x : Str) | tup (xs : List PV) | fls (xs : List PV) | loc (l : Nat)
instance : Inhabited PV := ⟨.non⟩
/-- an object of the store -/
inductive Ob where
  | lst (xs : List PV)
  | dct (kvs : List (Key × PV))
  | ins (C : Str) (fs : List (Str × PV))
instance : Inhabited Ob := ⟨.lst []⟩
abbrev Sto := List Ob
abbrev En := List (Option PV)

inductive Out (α : Type) where
  | ok (a : α) (S : Sto) | er (c : Str) (p : PV) (S : Sto) | bad
abbrev EM (α : Type) := En → Sto → Out α
inductive OS where
  | nx (τ : En) (S : Sto) | rt (v : PV) (S : Sto) | er (c : Str) (p : PV) (τ : En) (S : Sto) | bad
abbrev SM := En → Sto → OS

def bnd {α β : Type} (o : Out α) (f : α → Sto → Out β) : Out β :=
  match o with
  | .ok a S => f a S
  | .er c p S => .er c p S
  | .bad => .bad
@[simp] theorem bnd_ok {α β : Type} (a : α) (S : Sto) (f : α → Sto → Out β) : bnd (.ok a S) f = f a S := rfl
@[simp] theorem bnd_er {α β : Type} (c : Str) (p : PV) (S : Sto) (f : α → Sto → Out β) : bnd (.er c p S) f = .er c p S := rfl
@[simp] theorem bnd_bad {α β : Type} (f : α → Sto → Out β) : bnd .bad f = .bad := rfl

def wp {α : Type} (o : Out α) (P : α → Sto → Prop) (R : Str → PV → Sto → Prop) : Prop :=
  match o with
  | .ok a S => P a S
  | .er c p S => R c p S
  | .bad => False
@[simp] theorem wp_ok {α : Type} (a : α) (S : Sto) (P : α → Sto → Prop) (R : Str → PV → Sto → Prop) : wp (.ok a S) P R = P a S := rfl
@[simp] theorem wp_er {α : Type} (c : Str) (p : PV) (S : Sto) (P : α → Sto → Prop) (R : Str → PV → Sto → Prop) : wp (.er c p S : Out α) P R = R c p S := rfl
@[simp] theorem wp_bad {α : Type} (P : α → Sto → Prop) (R : Str → PV → Sto → Prop) : wp (.bad : Out α) P R = False := rfl
theorem wp_bnd {α β : Type} (o : Out α) (f : α → Sto → Out β) (P : β → Sto → Prop) (R : Str → PV → Sto → Prop) : wp (bnd o f) P R = wp o (fun a S => wp (f a S) P R) R := by
  cases o <;> rfl
theorem wp_mono {α : Type} {o : Out α} {P P' : α → Sto → Prop} {R R' : Str → PV → Sto → Prop} (h : wp o P R) (hP : ∀ a S, P a S → P' a S) (hR : ∀ c p S, R c p S → R' c p S) : wp o P' R' := by
  cases o with
  | ok a S => exact hP a S h
  | er c p S => exact hR c p S h
  | bad => exact h
def wpS (o : OS) (N : En → Sto → Prop) (T : PV → Sto → Prop) (R : Str → PV → En → Sto → Prop) : Prop :=
  match o with
  | .nx τ S => N τ S
  | .rt v S => T v S
  | .er c p τ S => R c p τ S
  | .bad => False
@[simp] theorem wpS_nx (τ : En) (S : Sto) (N : En → Sto → Prop) (T : PV → Sto → Prop) (R : Str → PV → En → Sto → Prop) : wpS (.nx τ S) N T R = N τ S := rfl
@[simp] theorem wpS_rt (v : PV) (S : Sto) (N : En → Sto → Prop) (T : PV → Sto → Prop) (R : Str → PV → En → Sto → Prop) : wpS (.rt v S) N T R = T v S := rfl
@[simp] theorem wpS_er (c : Str) (p : PV) (τ : En) (S : Sto) (N : En → Sto → Prop) (T : PV → Sto → Prop) (R : Str → PV → En → Sto → Prop) : wpS (.er c p τ S) N T R = R c p τ S := rfl
@[simp] theorem wpS_bad (N : En → Sto → Prop) (T : PV → Sto → Prop) (R : Str → PV → En → Sto → Prop) : wpS .bad N T R = False := rfl
theorem wpS_mono {o : OS} {N N' : En → Sto → Prop} {T T' : PV → Sto → Prop} {R R' : Str → PV → En → Sto → Prop} (h : wpS o N T R) (hN : ∀ τ S, N τ S → N' τ S) (hT : ∀ v S, T v S → T' v S) (hR : ∀ c p τ S, R c p τ S → R' c p τ S) : wpS o N' T' R' := by
  cases o with
  | nx τ S => exact hN τ S h
  | rt v S => exact hT v S h
  | er c p τ S => exact hR c p τ S h
  | bad => exact h

/-! ### values and the heap -/
/-- a list that stands still: locked, or written -/
def FzL (K : PySem.W.Frag) (H : Hp) (a : Addr) (xs : List V) : Prop :=
  (∃ o, H a = some (.frz o (.lst xs))) ∨
    ∃ (o : Obj) (its : Array Value) (n : Nat), K.lookup a = some o ∧ o.cls = .type "list" ∧ o.dict = none ∧ o.data = .seq its n ∧ its.size ≤ sizeLine ∧ Vals xs its.toList
/-- a tuple: tracked, or written -/
def FzT (K : PySem.W.Frag) (H : Hp) (a : Addr) (xs : List V) : Prop :=
  (∃ o : Obj, H a = some (.frz o (.tup xs)) ∧ o.dict = none) ∨
    ∃ (o : Obj) (its : Array Value) (n : Nat), K.lookup a = some o ∧ o.cls = .type "tuple" ∧ o.dict = none ∧ o.data = .seq its n ∧ its.size ≤ sizeLine ∧ Vals xs its.toList
theorem FzL.seq {K : PySem.W.Frag} {H : Hp} {a : Addr} {xs : List V} (h : FzL K H a xs) : SqL K H a xs := by
  rcases h with h | h
  · exact .inl (.inr h)
  · exact .inr h
theorem FzT.seq {K : PySem.W.Frag} {H : Hp} {a : Addr} {xs : List V} (h : FzT K H a xs) : SqT K H a xs := by
  rcases h with ⟨o, h, _⟩ | ⟨o, its, n, h1, h2, _, h3⟩
  · exact .inl (.inr ⟨o, h⟩)
  · exact .inr ⟨o, its, n, h1, h2, h3⟩

mutual
def Rp (K : PySem.W.Frag) (ι : List Addr) (H : Hp) : PV → V → Prop
  | .non, v => v = .non
  | .bl b, v => v = .bl b
  | .int i, v => v = .int i
  | .str x, v => v = .str x
  | .tup xs, v => ∃ a vs, v = .ref a ∧ FzT K H a vs ∧ RpL K ι H xs vs
  | .fls xs, v => ∃ a vs, v = .ref a ∧ FzL K H a vs ∧ RpL K ι H xs vs
  | .loc l, v => ∃ a, v = .ref a ∧ ι[l]? = some a
def RpL (K : PySem.W.Frag) (ι : List Addr) (H : Hp) : List PV → List V → Prop
  | [], vs => vs = []
  | x :: xs, vs => ∃ v r, vs = v :: r ∧ Rp K ι H x v ∧ RpL K ι H xs r
end

/-- what later heaps keep -/
structure Ext (ι : List Addr) (H : Hp) (ι' : List Addr) (H' : Hp) : Prop where
  pre : ∀ (l : Nat) (a : Addr), ι[l]? = some a → ι'[l]? = some a
  fr : ∀ a o, H a = some o → a ∉ ι → H' a = some o
  new : ∀ a, a ∈ ι' → a ∈ ι ∨ H a = none
  tups : ∀ a xs, H a = some (.tup xs) → H' a = some (.tup xs)
  frzs : ∀ a o u, H a = some (.frz o u) → H' a = some (.frz o u)
theorem Ext.refl {ι : List Addr} {H : Hp} : Ext ι H ι H := ⟨fun _ _ h => h, fun _ _ h _ => h, fun _ h => .inl h, fun _ _ h => h, fun _ _ _ h => h⟩
theorem Ext.trans {ι ι1 ι2 : List Addr} {H H1 H2 : Hp} (a : Ext ι H ι1 H1) (b : Ext ι1 H1 ι2 H2) : Ext ι H ι2 H2 where
  pre := fun l x h => b.pre l x (a.pre l x h)
  fr := fun x o h n => b.fr x o (a.fr x o h n) fun m => by
    rcases a.new x m with q | q
    · exact n q
    · rw [h] at q; cases q
  new := fun x m => by
    rcases b.new x m with q | q
    · exact a.new x q
    · cases e : H x with
      | none => exact .inr rfl
      | some o =>
        by_cases hx : x ∈ ι
        · exact .inl hx
        · rw [a.fr x o e hx] at q; cases q
  tups := fun x xs h => b.tups x xs (a.tups x xs h)
  frzs := fun x o u h => b.frzs x o u (a.frzs x o u h)

section
variable {K : PySem.W.Frag} {ι ι' : List Addr} {H H' : Hp}
theorem FzT.mono {a : Addr} {xs : List V} (h : FzT K H a xs) (e : Ext ι H ι' H') : FzT K H' a xs := by
  rcases h with ⟨o, h, hd⟩ | h
  · exact .inl ⟨o, e.frzs a o _ h, hd⟩
  · exact .inr h
theorem FzL.mono {a : Addr} {xs : List V} (h : FzL K H a xs) (e : Ext ι H ι' H') : FzL K H' a xs := by
  rcases h with ⟨o, h⟩ | h
  · exact .inl ⟨o, e.frzs a o _ h⟩
  · exact .inr h
mutual
theorem Rp.mono (e : Ext ι H ι' H') : ∀ (x : PV) (v : V), Rp K ι H x v → Rp K ι' H' x v
  | .non, _, h => h
  | .bl _, _, h => h
  | .int _, _, h => h
  | .str _, _, h => h
  | .tup xs, v, h => by
    obtain ⟨a, vs, e1, e2, e3⟩ := h
    exact ⟨a, vs, e1, e2.mono e, RpL.mono e xs vs e3⟩
  | .fls xs, v, h => by
    obtain ⟨a, vs, e1, e2, e3⟩ := h
    exact ⟨a, vs, e1, e2.mono e, RpL.mono e xs vs e3⟩
  | .loc l, v, h => by
    obtain ⟨a, e1, e2⟩ := h
    exact ⟨a, e1, e.pre l a e2⟩
theorem RpL.mono (e : Ext ι H ι' H') : ∀ (xs : List PV) (vs : List V), RpL K ι H xs vs → RpL K ι' H' xs vs
  | [], _, h => h
  | x :: xs, vs, h => by
    obtain ⟨v, r, e1, e2, e3⟩ := h
    exact ⟨v, r, e1, Rp.mono e x v e2, RpL.mono e xs r e3⟩
end
theorem Rp.up {x : PV} {v : V} (h : Rp K ι H x v) (e : Ext ι H ι' H') : Rp K ι' H' x v := Rp.mono e x v h
theorem RpL.up {xs : List PV} {vs : List V} (h : RpL K ι H xs vs) (e : Ext ι H ι' H') : RpL K ι' H' xs vs := RpL.mono e xs vs h

theorem RpL.length : ∀ {xs : List PV} {vs : List V}, RpL K ι H xs vs → xs.length = vs.length
  | [], _, h => by have h : _ = [] := h; subst h; rfl
  | x :: xs, vs, h => by
    obtain ⟨v, r, rfl, _, e3⟩ := h
    simp [RpL.length e3]
theorem RpL.get : ∀ {xs : List PV} {vs : List V} {i : Nat} {x : PV}, RpL K ι H xs vs → xs[i]? = some x → ∃ v, vs[i]? = some v ∧ Rp K ι H x v
  | [], _, _, _, _, e => by simp at e
  | y :: xs, vs, 0, x, h, e => by
    obtain ⟨v, r, rfl, e2, e3⟩ := h
    simp at e; subst e
    exact ⟨v, rfl, e2⟩
  | y :: xs, vs, i + 1, x, h, e => by
    obtain ⟨v, r, rfl, e2, e3⟩ := h
    obtain ⟨v', h1, h2⟩ := RpL.get (i := i) e3 (by simpa using e)
    exact ⟨v', by simpa using h1, h2⟩
theorem RpL.app : ∀ {xs ys : List PV} {vs ws : List V}, RpL K ι H xs vs → RpL K ι H ys ws → RpL K ι H (xs ++ ys) (vs ++ ws)
  | [], _, _, _, h, h' => by have h : _ = [] := h; subst h; exact h'
  | x :: xs, _, _, _, h, h' => by
    obtain ⟨v, r, rfl, e2, e3⟩ := h
    exact ⟨v, r ++ _, rfl, e2, RpL.app e3 h'⟩
theorem RpL.take : ∀ {xs : List PV} {vs : List V} (n : Nat), RpL K ι H xs vs → RpL K ι H (xs.take n) (vs.take n)
  | [], _, n, h => by have h : _ = [] := h; subst h; simp [RpL]
  | x :: xs, _, 0, h => by simp [RpL]
  | x :: xs, _, n + 1, h => by
    obtain ⟨v, r, rfl, e2, e3⟩ := h
    exact ⟨v, r.take n, rfl, e2, RpL.take n e3⟩
theorem RpL.drop : ∀ {xs : List PV} {vs : List V} (n : Nat), RpL K ι H xs vs → RpL K ι H (xs.drop n) (vs.drop n)
  | [], _, n, h => by have h : _ = [] := h; subst h; simp [RpL]
  | x :: xs, _, 0, h => h
  | x :: xs, _, n + 1, h => by
    obtain ⟨v, r, rfl, e2, e3⟩ := h
    exact RpL.drop n e3
theorem RpL.rev : ∀ {xs : List PV} {vs : List V}, RpL K ι H xs vs → RpL K ι H xs.reverse vs.reverse
  | [], _, h => by have h : _ = [] := h; subst h; rfl
  | x :: xs, _, h => by
    obtain ⟨v, r, rfl, e2, e3⟩ := h
    rw [List.reverse_cons, List.reverse_cons]
    exact (RpL.rev e3).app ⟨v, [], rfl, e2, rfl⟩
theorem RpL.set : ∀ {xs : List PV} {vs : List V} {x : PV} {v : V} (i : Nat), RpL K ι H xs vs → Rp K ι H x v → RpL K ι H (xs.set i x) (vs.set i v)
  | [], _, _, _, i, h, _ => by have h : _ = [] := h; subst h; rfl
  | y :: xs, _, x, v, 0, h, hx => by
    obtain ⟨w, r, rfl, e2, e3⟩ := h
    exact ⟨v, r, rfl, hx, e3⟩
  | y :: xs, _, x, v, i + 1, h, hx => by
    obtain ⟨w, r, rfl, e2, e3⟩ := h
    exact ⟨w, r.set i v, rfl, e2, RpL.set i e3 hx⟩
theorem RpL.one {x : PV} {v : V} (h : Rp K ι H x v) : RpL K ι H [x] [v] := ⟨v, [], rfl, h, rfl⟩
theorem RpL.ints : ∀ ns : List Int, RpL K ι H (ns.map PV.int) (ns.map V.int)
  | [] => rfl
  | n :: ns => ⟨.int n, ns.map V.int, rfl, rfl, RpL.ints ns⟩
theorem RpL.of_get : ∀ {xs : List PV} {vs : List V}, xs.length = vs.length → (∀ (i : Nat) x v, xs[i]? = some x → vs[i]? = some v → Rp K ι H x v) → RpL K ι H xs vs
  | [], [], _, _ => rfl
  | [], _ :: _, h, _ => by simp at h
  | _ :: _, [], h, _ => by simp at h
  | x :: xs, v :: vs, h, f => ⟨v, vs, rfl, f 0 x v rfl rfl, RpL.of_get (by simpa using h) fun i y w h1 h2 => f (i + 1) y w (by simpa using h1) (by simpa using h2)⟩
end

/-! ### the store and the heap -/
/-- fields by name -/
def RpF (K : PySem.W.Frag) (ι : List Addr) (H : Hp) {κ : Type} : List (κ × PV) → List (κ × V) → Prop
  | [], ws => ws = []
  | (k, x) :: r, ws => ∃ v w, ws = (k, v) :: w ∧ Rp K ι H x v ∧ RpF K ι H r w
section
variable {K : PySem.W.Frag} {ι ι' : List Addr} {H H' : Hp} {κ : Type}
theorem RpF.up : ∀ {fs : List (κ × PV)} {ws : List (κ × V)}, RpF K ι H fs ws → Ext ι H ι' H' → RpF K ι' H' fs ws
  | [], _, h, _ => h
  | (k, x) :: r, _, h, e => by
    obtain ⟨v, w, rfl, h1, h2⟩ := h
    exact ⟨v, w, rfl, h1.up e, RpF.up h2 e⟩
theorem RpF.length : ∀ {fs : List (κ × PV)} {ws : List (κ × V)}, RpF K ι H fs ws → fs.length = ws.length
  | [], _, h => by have h : _ = [] := h; subst h; rfl
  | (k, x) :: r, _, h => by
    obtain ⟨v, w, rfl, h1, h2⟩ := h
    simp [RpF.length h2]
theorem RpF.keys : ∀ {fs : List (κ × PV)} {ws : List (κ × V)}, RpF K ι H fs ws → fs.map (·.1) = ws.map (·.1)
  | [], _, h => by have h : _ = [] := h; subst h; rfl
  | (k, x) :: r, _, h => by
    obtain ⟨v, w, rfl, h1, h2⟩ := h
    simp [RpF.keys h2]
theorem RpF.lookup [BEq κ] : ∀ {fs : List (κ × PV)} {ws : List (κ × V)} {f : κ} {x : PV}, RpF K ι H fs ws → fs.lookup f = some x → ∃ v, ws.lookup f = some v ∧ Rp K ι H x v
  | [], _, _, _, _, e => by simp at e
  | (k, x) :: r, _, f, y, h, e => by
    obtain ⟨v, w, rfl, h1, h2⟩ := h
    rw [List.lookup_cons] at e ⊢
    split at e
    · rename_i q
      cases e
      exact ⟨v, by simp_all, h1⟩
    · rename_i q
      obtain ⟨v', h3, h4⟩ := RpF.lookup (f := f) h2 e
      exact ⟨v', by simp_all, h4⟩
theorem RpF.lookup_none [BEq κ] : ∀ {fs : List (κ × PV)} {ws : List (κ × V)} {f : κ}, RpF K ι H fs ws → fs.lookup f = none → ws.lookup f = none
  | [], _, _, h, _ => by have h : _ = [] := h; subst h; rfl
  | (k, x) :: r, _, f, h, e => by
    obtain ⟨v, w, rfl, h1, h2⟩ := h
    rw [List.lookup_cons] at e ⊢
    split at e
    · cases e
    · exact RpF.lookup_none h2 e
end

/-- an object o of the store, at a -/
def OR (K : PySem.W.Frag) (mg : Str → Option Value) (ι : List Addr) (H : Hp) (a : Addr) : Ob → Prop
  | .lst xs => ∃ vs, H a = some (.lst vs) ∧ RpL K ι H xs vs
  | .dct kvs => ∃ ws, H a = some (.dK ws) ∧ RpF K ι H kvs ws
  | .ins C fs => ∃ Ca dx ws, mg C = some (.ref Ca) ∧ H a = some (.ins Ca dx ws) ∧ RpF K ι H fs ws
structure RSt (K : PySem.W.Frag) (mg : Str → Option Value) (ι : List Addr) (H : Hp) (S : Sto) : Prop where
  len : ι.length = S.length
  nd : ι.Nodup
  obj : ∀ (l : Nat) (a : Addr) (o : Ob), ι[l]? = some a → S[l]? = some o → OR K mg ι H a o
section
variable {K : PySem.W.Frag} {mg : Str → Option Value} {ι ι' : List Addr} {H H' : Hp} {S S' : Sto} {a : Addr} {o : Ob} {l : Nat}
theorem OR.mut (h : OR K mg ι H a o) : Mut (H a) ∧ H a ≠ none ∧ (∀ xs, H a ≠ some (.tup xs)) ∧ ∀ o u, H a ≠ some (.frz o u) := by
  cases o with
  | lst xs => obtain ⟨vs, e, _⟩ := h; rw [e]; exact ⟨trivial, by simp, by simp, by simp⟩
  | dct kvs => obtain ⟨vs, e, _⟩ := h; rw [e]; exact ⟨trivial, by simp, by simp, by simp⟩
  | ins C fs => obtain ⟨Ca, dx, ws, _, e, _⟩ := h; rw [e]; exact ⟨trivial, by simp, by simp, by simp⟩
theorem RSt.get (r : RSt K mg ι H S) (h : S[l]? = some o) : ∃ a, ι[l]? = some a ∧ OR K mg ι H a o := by
  have hl : l < S.length := (List.getElem?_eq_some_iff.mp h).1
  have hι : l < ι.length := by rw [r.len]; exact hl
  exact ⟨ι[l], List.getElem?_eq_getElem hι, r.obj l _ o (List.getElem?_eq_getElem hι) h⟩
theorem RSt.mem (r : RSt K mg ι H S) (h : a ∈ ι) : ∃ (l : Nat) (o : Ob), ι[l]? = some a ∧ S[l]? = some o ∧ OR K mg ι H a o := by
  obtain ⟨l, hl, e⟩ := List.mem_iff_getElem.mp h
  have hS : l < S.length := by rw [← r.len]; exact hl
  exact ⟨l, S[l], by rw [List.getElem?_eq_getElem hl, e], List.getElem?_eq_getElem hS, r.obj l a _ (by rw [List.getElem?_eq_getElem hl, e]) (List.getElem?_eq_getElem hS)⟩
theorem OR.up_other (h : OR K mg ι H a o) (e : Ext ι H ι' H') (k : H' a = H a) : OR K mg ι' H' a o := by
  cases o with
  | lst xs => obtain ⟨vs, q, r⟩ := h; exact ⟨vs, k.trans q, r.up e⟩
  | dct xs => obtain ⟨vs, q, r⟩ := h; exact ⟨vs, k.trans q, r.up e⟩
  | ins C fs => obtain ⟨Ca, dx, ws, m, q, r⟩ := h; exact ⟨Ca, dx, ws, m, k.trans q, r.up e⟩
/-- an object of ours is written -/
theorem RSt.write (r : RSt K mg ι H S) {ho : HO} (hl : ι[l]? = some a) (ho' : OR K mg ι (upd H a ho) a o) : Ext ι H ι (upd H a ho) ∧ RSt K mg ι (upd H a ho) (S.set l o) := by
  have hm : a ∈ ι := List.mem_of_getElem? hl
  obtain ⟨l0, o0, h1, h2, h3⟩ := r.mem hm
  obtain ⟨_, _, nt, nf⟩ := h3.mut
  have ne : ∀ b, b ≠ a → upd H a ho b = H b := fun b hb => upd_ne hb
  have E : Ext ι H ι (upd H a ho) := ⟨fun _ _ h => h, fun b u h n => by rw [ne b (fun z => n (z ▸ hm))]; exact h, fun _ h => .inl h,
    fun b xs h => by rw [ne b (fun z => by subst z; exact nt xs h)]; exact h, fun b o u h => by rw [ne b (fun z => by subst z; exact nf o u h)]; exact h⟩
  refine ⟨E, by rw [List.length_set]; exact r.len, r.nd, fun l' a' o' e1 e2 => ?_⟩
  by_cases hll : l' = l
  · subst hll
    rw [hl] at e1; cases e1
    have hlt : l' < S.length := by
      have := (List.getElem?_eq_some_iff.mp hl).1
      rw [r.len] at this; exact this
    rw [List.getElem?_set_self hlt] at e2
    cases e2
    exact ho'
  · rw [List.getElem?_set_ne (Ne.symm hll)] at e2
    have hne : a' ≠ a := fun z => by
      subst z
      exact hll ((List.getElem?_inj (List.getElem?_eq_some_iff.mp e1).1 r.nd).mp (e1.trans hl.symm))
    exact (r.obj l' a' o' e1 e2).up_other E (ne a' hne)
theorem RSt.extw (r : RSt K mg ι H S) {ho : HO} (hl : ι[l]? = some a) : Ext ι H ι (upd H a ho) := by
  have hm : a ∈ ι := List.mem_of_getElem? hl
  obtain ⟨l0, o0, h1, h2, h3⟩ := r.mem hm
  obtain ⟨_, _, nt, nf⟩ := h3.mut
  have ne : ∀ b, b ≠ a → upd H a ho b = H b := fun b hb => upd_ne hb
  exact ⟨fun _ _ h => h, fun b u h n => by rw [ne b (fun z => n (z ▸ hm))]; exact h, fun _ h => .inl h,
    fun b xs h => by rw [ne b (fun z => by subst z; exact nt xs h)]; exact h, fun b o u h => by rw [ne b (fun z => by subst z; exact nf o u h)]; exact h⟩
theorem RSt.wlst (r : RSt K mg ι H S) {xs : List PV} {vs : List V} (hl : ι[l]? = some a) (h : RpL K ι H xs vs) : Ext ι H ι (upd H a (.lst vs)) ∧ RSt K mg ι (upd H a (.lst vs)) (S.set l (.lst xs)) :=
  r.write hl ⟨vs, upd_same, h.up (r.extw hl)⟩
theorem RSt.wdct (r : RSt K mg ι H S) {xs : List (Key × PV)} {vs : List (Key × V)} (hl : ι[l]? = some a) (h : RpF K ι H xs vs) : Ext ι H ι (upd H a (.dK vs)) ∧ RSt K mg ι (upd H a (.dK vs)) (S.set l (.dct xs)) :=
  r.write hl ⟨vs, upd_same, h.up (r.extw hl)⟩
theorem RSt.wins (r : RSt K mg ι H S) {C : Str} {Ca dx : Addr} {xs : List (Str × PV)} {vs : List (Str × V)} (hl : ι[l]? = some a) (hc : mg C = some (.ref Ca)) (h : RpF K ι H xs vs) : Ext ι H ι (upd H a (.ins Ca dx vs)) ∧ RSt K mg ι (upd H a (.ins Ca dx vs)) (S.set l (.ins C xs)) :=
  r.write hl ⟨Ca, dx, vs, hc, upd_same, h.up (r.extw hl)⟩
/-- a new object of ours -/
theorem RSt.alloc (r : RSt K mg ι H S) {p : Addr} (hp : H p = none) (hn : ∀ ι' H', Ext ι H ι' H' → H' p = H' p → True) {ho : HO} (E : Ext ι H (ι ++ [p]) (upd H p ho)) (ho' : OR K mg (ι ++ [p]) (upd H p ho) p o) : RSt K mg (ι ++ [p]) (upd H p ho) (S ++ [o]) := by
  have hnot : p ∉ ι := fun hm => by
    obtain ⟨l0, o0, h1, h2, h3⟩ := r.mem hm
    exact h3.mut.2.1 hp
  refine ⟨by simp [r.len], List.nodup_append.mpr ⟨r.nd, by simp, fun x hx y hy => by simp at hy; subst hy; exact fun z => hnot (z ▸ hx)⟩, fun l' a' o' e1 e2 => ?_⟩
  by_cases hl : l' < ι.length
  · rw [List.getElem?_append_left hl] at e1
    rw [List.getElem?_append_left (by rw [← r.len]; exact hl)] at e2
    exact (r.obj l' a' o' e1 e2).up_other E (upd_ne fun z => hnot (z ▸ List.mem_of_getElem? e1))
  · rw [List.getElem?_append_right (by omega)] at e1
    rw [List.getElem?_append_right (by rw [← r.len]; omega)] at e2
    have : l' - ι.length = 0 := by
      have := (List.getElem?_eq_some_iff.mp e1).1
      simp at this; omega
    have h2 : l' - S.length = 0 := by rw [← r.len]; exact this
    rw [this] at e1; rw [h2] at e2
    simp at e1 e2
    subst e1; subst e2
    exact ho'
theorem Ext.alloc {p : Addr} {ho : HO} (hp : H p = none) : Ext ι H (ι ++ [p]) (upd H p ho) where
  pre := fun l x h => by
    rw [List.getElem?_append_left (List.getElem?_eq_some_iff.mp h).1]; exact h
  fr := fun x u h _ => by rw [upd_ne (ne_of_none h hp)]; exact h
  new := fun x m => by
    rcases List.mem_append.mp m with q | q
    · exact .inl q
    · have : x = p := by simpa using q
      subst this; exact .inr hp
  tups := fun x u h => by rw [upd_ne (ne_of_none h hp)]; exact h
  frzs := fun x u z h => by rw [upd_ne (ne_of_none h hp)]; exact h
/-- something else is tracked -/
theorem Ext.other {p : Addr} {ho : HO} (hp : H p = none) : Ext ι H ι (upd H p ho) where
  pre := fun l x h => h
  fr := fun x u h _ => by rw [upd_ne (ne_of_none h hp)]; exact h
  new := fun x m => .inl m
  tups := fun x u h => by rw [upd_ne (ne_of_none h hp)]; exact h
  frzs := fun x u z h => by rw [upd_ne (ne_of_none h hp)]; exact h
theorem RSt.other (r : RSt K mg ι H S) (e : Ext ι H ι H') (k : ∀ a, a ∈ ι → H' a = H a) : RSt K mg ι H' S :=
  ⟨r.len, r.nd, fun l a o e1 e2 => (r.obj l a o e1 e2).up_other e (k a (List.mem_of_getElem? e1))⟩
theorem RSt.tup (r : RSt K mg ι H S) {p : Addr} {ho : HO} (hp : H p = none) : Ext ι H ι (upd H p ho) ∧ RSt K mg ι (upd H p ho) S := by
  refine ⟨.other hp, r.other (.other hp) fun a ha => upd_ne fun z => ?_⟩
  obtain ⟨l0, o0, h1, h2, h3⟩ := r.mem ha
  subst z
  exact h3.mut.2.1 hp
theorem RSt.new_lst (r : RSt K mg ι H S) {p : Addr} (hp : H p = none) {xs : List PV} {vs : List V} (h : RpL K ι H xs vs) : Ext ι H (ι ++ [p]) (upd H p (.lst vs)) ∧ RSt K mg (ι ++ [p]) (upd H p (.lst vs)) (S ++ [.lst xs]) ∧ Rp K (ι ++ [p]) (upd H p (.lst vs)) (.loc S.length) (.ref p) := by
  have E : Ext ι H (ι ++ [p]) (upd H p (.lst vs)) := .alloc hp
  exact ⟨E, r.alloc hp (fun _ _ _ _ => trivial) E ⟨vs, upd_same, h.up E⟩, p, rfl, by rw [← r.len]; simp⟩
end

/-! ### the slots -/
def REn (K : PySem.W.Frag) (ι : List Addr) (H : Hp) : En → L2.St → Prop
  | [], σ => σ = []
  | none :: τ, σ => ∃ r, σ = none :: r ∧ REn K ι H τ r
  | some x :: τ, σ => ∃ v r, σ = some v :: r ∧ Rp K ι H x v ∧ REn K ι H τ r
section
variable {K : PySem.W.Frag} {ι ι' : List Addr} {H H' : Hp}
theorem REn.up : ∀ {τ : En} {σ : L2.St}, REn K ι H τ σ → Ext ι H ι' H' → REn K ι' H' τ σ
  | [], _, h, _ => h
  | none :: τ, _, h, e => by
    obtain ⟨r, rfl, q⟩ := h
    exact ⟨r, rfl, q.up e⟩
  | some x :: τ, _, h, e => by
    obtain ⟨v, r, rfl, h1, q⟩ := h
    exact ⟨v, r, rfl, h1.up e, q.up e⟩
theorem REn.get : ∀ {τ : En} {σ : L2.St} {i : Nat} {x : PV}, REn K ι H τ σ → τ[i]? = some (some x) → ∃ v, σ[i]? = some (some v) ∧ Rp K ι H x v
  | [], _, _, _, _, e => by simp at e
  | none :: τ, _, 0, x, h, e => by simp at e
  | some y :: τ, _, 0, x, h, e => by
    obtain ⟨v, r, rfl, h1, q⟩ := h
    simp at e; subst e
    exact ⟨v, rfl, h1⟩
  | none :: τ, _, i + 1, x, h, e => by
    obtain ⟨r, rfl, q⟩ := h
    obtain ⟨v, h1, h2⟩ := REn.get (i := i) q (by simpa using e)
    exact ⟨v, by simpa using h1, h2⟩
  | some y :: τ, _, i + 1, x, h, e => by
    obtain ⟨v, r, rfl, h1, q⟩ := h
    obtain ⟨v, h1, h2⟩ := REn.get (i := i) q (by simpa using e)
    exact ⟨v, by simpa using h1, h2⟩
theorem REn.set : ∀ {τ : En} {σ : L2.St} {x : PV} {v : V} (i : Nat), REn K ι H τ σ → Rp K ι H x v → REn K ι H (τ.set i (some x)) (σ.set i (some v))
  | [], _, _, _, i, h, _ => by have h : _ = [] := h; subst h; rfl
  | none :: τ, _, x, v, 0, h, hx => by
    obtain ⟨r, rfl, q⟩ := h
    exact ⟨v, r, rfl, hx, q⟩
  | some y :: τ, _, x, v, 0, h, hx => by
    obtain ⟨w, r, rfl, h1, q⟩ := h
    exact ⟨v, r, rfl, hx, q⟩
  | none :: τ, _, x, v, i + 1, h, hx => by
    obtain ⟨r, rfl, q⟩ := h
    exact ⟨r.set i (some v), rfl, REn.set i q hx⟩
  | some y :: τ, _, x, v, i + 1, h, hx => by
    obtain ⟨w, r, rfl, h1, q⟩ := h
    exact ⟨w, r.set i (some v), rfl, h1, REn.set i q hx⟩
theorem REn.unset : ∀ {τ : En} {σ : L2.St} (i : Nat), REn K ι H τ σ → REn K ι H (τ.set i none) (σ.set i none)
  | [], _, i, h => by have h : _ = [] := h; subst h; rfl
  | none :: τ, _, 0, h => by
    obtain ⟨r, rfl, q⟩ := h
    exact ⟨r, rfl, q⟩
  | some y :: τ, _, 0, h => by
    obtain ⟨w, r, rfl, h1, q⟩ := h
    exact ⟨r, rfl, q⟩
  | none :: τ, _, i + 1, h => by
    obtain ⟨r, rfl, q⟩ := h
    exact ⟨r.set i none, rfl, REn.unset i q⟩
  | some y :: τ, _, i + 1, h => by
    obtain ⟨w, r, rfl, h1, q⟩ := h
    exact ⟨w, r.set i none, rfl, h1, REn.unset i q⟩
theorem REn.nones : ∀ n : Nat, REn K ι H (List.replicate n none) (List.replicate n none)
  | 0 => rfl
  | n + 1 => ⟨List.replicate n none, rfl, REn.nones n⟩
theorem REn.args : ∀ {ps : List PV} {vs : List V} {τ : En} {σ : L2.St}, RpL K ι H ps vs → REn K ι H τ σ → REn K ι H (ps.map some ++ τ) (vs.map some ++ σ)
  | [], _, _, _, h, q => by have h : _ = [] := h; subst h; exact q
  | p :: ps, _, _, _, h, q => by
    obtain ⟨v, r, rfl, h1, h2⟩ := h
    exact ⟨v, r.map some ++ _, rfl, h1, REn.args h2 q⟩
end
/-- what values lean on -/
structure ExtW (ι : List Addr) (H : Hp) (ι' : List Addr) (H' : Hp) : Prop where
  pre : ∀ (l : Nat) (a : Addr), ι[l]? = some a → ι'[l]? = some a
  tups : ∀ a xs, H a = some (.tup xs) → H' a = some (.tup xs)
  frzs : ∀ a o u, H a = some (.frz o u) → H' a = some (.frz o u)
theorem FzT.upW {K : PySem.W.Frag} {ι ι' : List Addr} {H H' : Hp} {a : Addr} {xs : List V} (h : FzT K H a xs) (e : ExtW ι H ι' H') : FzT K H' a xs := h.imp (fun ⟨o, h, hd⟩ => ⟨o, e.frzs a o _ h, hd⟩) id
theorem FzL.upW {K : PySem.W.Frag} {ι ι' : List Addr} {H H' : Hp} {a : Addr} {xs : List V} (h : FzL K H a xs) (e : ExtW ι H ι' H') : FzL K H' a xs := h.imp (fun ⟨o, h⟩ => ⟨o, e.frzs a o _ h⟩) id
theorem Ext.w {ι ι' : List Addr} {H H' : Hp} (e : Ext ι H ι' H') : ExtW ι H ι' H' := ⟨e.pre, e.tups, e.frzs⟩
theorem ExtW.refl {ι : List Addr} {H : Hp} : ExtW ι H ι H := ⟨fun _ _ h => h, fun _ _ h => h, fun _ _ _ h => h⟩
theorem ExtW.trans {ι ι1 ι2 : List Addr} {H H1 H2 : Hp} (a : ExtW ι H ι1 H1) (b : ExtW ι1 H1 ι2 H2) : ExtW ι H ι2 H2 :=
  ⟨fun l x h => b.pre l x (a.pre l x h), fun x xs h => b.tups x xs (a.tups x xs h), fun x o u h => b.frzs x o u (a.frzs x o u h)⟩
mutual
theorem Rp.upW {K : PySem.W.Frag} {ι ι' : List Addr} {H H' : Hp} (e : ExtW ι H ι' H') : ∀ (x : PV) (v : V), Rp K ι H x v → Rp K ι' H' x v
  | .non, _, h => h
  | .bl _, _, h => h
  | .int _, _, h => h
  | .str _, _, h => h
  | .tup xs, v, h => by
    obtain ⟨a, vs, e1, e2, e3⟩ := h
    exact ⟨a, vs, e1, e2.upW e, RpL.upW e xs vs e3⟩
  | .fls xs, v, h => by
    obtain ⟨a, vs, e1, e2, e3⟩ := h
    exact ⟨a, vs, e1, e2.upW e, RpL.upW e xs vs e3⟩
  | .loc l, v, h => by
    obtain ⟨a, e1, e2⟩ := h
    exact ⟨a, e1, e.pre l a e2⟩
theorem RpL.upW {K : PySem.W.Frag} {ι ι' : List Addr} {H H' : Hp} (e : ExtW ι H ι' H') : ∀ (xs : List PV) (vs : List V), RpL K ι H xs vs → RpL K ι' H' xs vs
  | [], _, h => h
  | x :: xs, vs, h => by
    obtain ⟨v, r, e1, e2, e3⟩ := h
    exact ⟨v, r, e1, Rp.upW e x v e2, RpL.upW e xs r e3⟩
end
theorem RpF.upW {K : PySem.W.Frag} {ι ι' : List Addr} {H H' : Hp} {κ : Type} (e : ExtW ι H ι' H') : ∀ {fs : List (κ × PV)} {ws : List (κ × V)}, RpF K ι H fs ws → RpF K ι' H' fs ws
  | [], _, h => h
  | (k, x) :: r, _, h => by
    obtain ⟨v, w, rfl, h1, h2⟩ := h
    exact ⟨v, w, rfl, Rp.upW e x v h1, RpF.upW e h2⟩
theorem REn.upW {K : PySem.W.Frag} {ι ι' : List Addr} {H H' : Hp} (e : ExtW ι H ι' H') : ∀ {τ : En} {σ : L2.St}, REn K ι H τ σ → REn K ι' H' τ σ
  | [], _, h => h
  | none :: τ, _, h => by
    obtain ⟨r, rfl, q⟩ := h
    exact ⟨r, rfl, REn.upW e q⟩
  | some x :: τ, _, h => by
    obtain ⟨v, r, rfl, h1, q⟩ := h
    exact ⟨v, r, rfl, Rp.upW e x v h1, REn.upW e q⟩
def startE (n : Nat) (ps : List PV) : En := ps.map some ++ List.replicate (n - ps.length) none
theorem REn.start {K : PySem.W.Frag} {ι : List Addr} {H : Hp} {N : List Str} {ps : List PV} {vs : List V} (h : RpL K ι H ps vs) : REn K ι H (startE N.length ps) (L2.start N vs) := by
  unfold startE L2.start
  rw [h.length]
  exact REn.args h (REn.nones _)
end PL
/-! PLB: the judgements over mirrors, expressions. -/
namespace PL
open PySem PySem.Spec PyProof.Rows L2

/-! ### packs -/
/-- what is wanted of an exception -/
def ErrOk (X : Cx) (W : WX) (σ : L2.St) (ι : List Addr) (H : Hp) (c : Str) (p : PV) (S' : Sto) : Prop :=
  ∀ (ι' : List Addr) (H' : Hp) (Ca d : Addr) (x : V), Ext ι H ι' H' → RSt X.K X.mg ι' H' S' → X.mg c = some (.ref Ca) → H' d = some (.xd [("what", x)]) → Rp X.K ι' H' p x → W (.ref Ca) (some d) σ H'
theorem ErrOk.up {X : Cx} {W : WX} {σ : L2.St} {ι ι1 : List Addr} {H H1 : Hp} {c : Str} {p : PV} {S' : Sto} (h : ErrOk X W σ ι H c p S') (e : Ext ι H ι1 H1) : ErrOk X W σ ι1 H1 c p S' :=
  fun ι' H' Ca d x e' r m hd q => h ι' H' Ca d x (e.trans e') r m hd q
abbrev RR (α β : Type) := List Addr → Hp → α → β → Prop
def Pk {α β : Type} (X : Cx) (W : WX) (R : RR α β) (σ : L2.St) (Q : β → Hp → Prop) (ι : List Addr) (H : Hp) (o : Out α) : Prop :=
  wp o (fun v S' => ∀ ι' H' x, Ext ι H ι' H' → RSt X.K X.mg ι' H' S' → R ι' H' v x → Q x H') (ErrOk X W σ ι H)
section
variable {α β γ δ : Type} {X : Cx} {W : WX} {R : RR α β} {R' : RR γ δ} {σ : L2.St} {Q Q' : β → Hp → Prop} {P : δ → Hp → Prop} {ι ι1 : List Addr} {H H1 : Hp} {o : Out α} {S S1 : Sto}
theorem Pk.mono (h : Pk X W R σ Q ι H o) (w : ∀ x H1, Q x H1 → Q' x H1) : Pk X W R σ Q' ι H o :=
  wp_mono h (fun v S' k ι' H' x e r q => w _ _ (k ι' H' x e r q)) fun _ _ _ k => k
theorem Pk.up (h : Pk X W R σ Q ι H o) (e : Ext ι H ι1 H1) : Pk X W R σ Q ι1 H1 o :=
  wp_mono h (fun v S' k ι' H' x e' r q => k ι' H' x (e.trans e') r q) fun _ _ _ k => k.up e
theorem Pk.next {f : α → Sto → Out γ} (h : Pk X W R' σ P ι H (bnd o f)) :
    Pk X W R σ (fun x H1 => ∃ a ι1 S1, Ext ι H ι1 H1 ∧ RSt X.K X.mg ι1 H1 S1 ∧ R ι1 H1 a x ∧ Pk X W R' σ P ι1 H1 (f a S1)) ι H o := by
  unfold Pk at h
  rw [wp_bnd] at h
  exact wp_mono h (fun a S k ι' H' x e r q => ⟨a, ι', S, e, r, q, Pk.up (o := f a S) k e⟩) fun _ _ _ k => k
end
def gE {α β : Type} (X : Cx) (W : WX) (R : RR α β) (m : EM α) : L2.St → Hp → (β → Hp → Prop) → Prop := fun σ H Q =>
  ∃ ι τ S, RSt X.K X.mg ι H S ∧ REn X.K ι H τ σ ∧ Pk X W R σ Q ι H (m τ S)
abbrev rV (X : Cx) : RR PV V := Rp X.K
abbrev rB : RR Bool Bool := fun _ _ v x => v = x
abbrev rL (X : Cx) : RR (List PV) (List V) := RpL X.K
structure RE (X : Cx) (W : WX) (e : Expr) (m : EM PV) : Prop where
  pe : PE X e (gE X W (rV X) m)
structure RT (X : Cx) (W : WX) (e : Expr) (m : EM Bool) : Prop where
  pt : PT X e (gE X W rB m)
structure RW (X : Cx) (W : WX) (e : Expr) (m : EM Bool) : Prop where
  pw : PW X e (gE X W rB m)
structure RA (X : Cx) (W : WX) (es : List Expr) (m : EM (List PV)) : Prop where
  pa : PA X es (gE X W (rL X) m)
theorem pe_weak {X : Cx} {e : Expr} {t t' : TE} (h : PE X e t) (w : ∀ σ H Q, t' σ H Q → t σ H Q) : PE X e t' := ⟨fun pins s σ H Q I hh => h.run pins s σ H Q I (w σ H Q hh)⟩
theorem pt_weak {X : Cx} {e : Expr} {t t' : TT} (h : PT X e t) (w : ∀ σ H Q, t' σ H Q → t σ H Q) : PT X e t' := ⟨fun pins s σ H Q I hh => h.run pins s σ H Q I (w σ H Q hh)⟩
theorem pw_weak {X : Cx} {e : Expr} {t t' : TT} (h : PW X e t) (w : ∀ σ H Q, t' σ H Q → t σ H Q) : PW X e t' := ⟨fun wh pins s σ H Q I hh => h.run wh pins s σ H Q I (w σ H Q hh)⟩
theorem pa_weak {X : Cx} {e : List Expr} {t t' : TA} (h : PA X e t) (w : ∀ σ H Q, t' σ H Q → t σ H Q) : PA X e t' := ⟨fun pos pins s σ H Q I hh => h.run pos pins s σ H Q I (w σ H Q hh)⟩

def lift {α : Type} : Option (α × Sto) → Out α
  | some (v, S) => .ok v S
  | none => .bad
@[simp] theorem lift_some {α : Type} (v : α) (S : Sto) : lift (some (v, S)) = .ok v S := rfl
@[simp] theorem lift_none {α : Type} : lift (none : Option (α × Sto)) = .bad := rfl
theorem pk_lift {α β : Type} {X : Cx} {W : WX} {R : RR α β} {σ : L2.St} {Q : β → Hp → Prop} {ι : List Addr} {H : Hp} {o : Option (α × Sto)} (h : Pk X W R σ Q ι H (lift o)) :
    ∃ v S', o = some (v, S') ∧ ∀ ι' H' x, Ext ι H ι' H' → RSt X.K X.mg ι' H' S' → R ι' H' v x → Q x H' := by
  cases o with
  | none => exact h.elim
  | some q => obtain ⟨v, S'⟩ := q; exact ⟨v, S', rfl, h⟩

/-! ### operators by values -/
abbrev Op2 := PV → PV → Sto → Option (PV × Sto)
def gOp (X : Cx) (f : Op2) : R2 := fun x y H Q => ∃ ι S p q v S', RSt X.K X.mg ι H S ∧ Rp X.K ι H p x ∧ Rp X.K ι H q y ∧ f p q S = some (v, S') ∧
  ∀ ι' H' z, Ext ι H ι' H' → RSt X.K X.mg ι' H' S' → Rp X.K ι' H' v z → Q z H'
def binM (f : Op2) (ma mb : EM PV) : EM PV := fun τ S => bnd (ma τ S) fun p S1 => bnd (mb τ S1) fun q S2 => lift (f p q S2)
section
variable {X : Cx} {W : WX} {a b c e : Expr} {ma mb mc : EM PV} {pos : Pos} {f f' : Op2}
theorem bin_read (σ : L2.St) (H : Hp) (Q : VK) (h : gE X W (rV X) (binM f ma mb) σ H Q) : tOp (gOp X f) (gE X W (rV X) ma) (gE X W (rV X) mb) σ H Q := by
  obtain ⟨ι, τ, S, r, ρ, pk⟩ := h
  refine ⟨ι, τ, S, r, ρ, pk.next.mono ?_⟩
  rintro x H1 ⟨p, ι1, S1, e1, r1, q1, pk1⟩
  refine ⟨ι1, τ, S1, r1, ρ.up e1, pk1.next.mono ?_⟩
  rintro y H2 ⟨q, ι2, S2, e2, r2, q2, pk2⟩
  obtain ⟨v, S', hf, k⟩ := pk_lift pk2
  exact ⟨ι2, S2, p, q, v, S', r2, q1.up e2, q2, hf, k⟩
theorem re_bin {op : Operator} (ho : OpR X (binaryOp op) (gOp X f)) (ha : RE X W a ma) (hb : RE X W b mb) : RE X W (.BinOp a op b pos) (binM f ma mb) :=
  ⟨pe_weak (pe_op ho ha.pe hb.pe) bin_read⟩
theorem re_cmp {op : CmpOp} (ho : OpR X (compareOp op) (gOp X f)) (ha : RE X W a ma) (hb : RE X W b mb) (hm : behindInMarks op b = false := by first | exact nomark _ | rfl) : RE X W (.Compare a [op] [b] pos) (binM f ma mb) :=
  ⟨pe_weak (pe_cmpR ho ha.pe hb.pe hm) bin_read⟩
/-- a value that is a truth -/
def blM (m : EM PV) : EM Bool := fun τ S => bnd (m τ S) fun v S1 => match v with | .bl b => .ok b S1 | _ => .bad
theorem bl_read {m : EM PV} (σ : L2.St) (H : Hp) (Q : Bool → Hp → Prop) (h : gE X W rB (blM m) σ H Q) : gE X W (rV X) m σ H (fun x H1 => ∃ k, x = .bl k ∧ Q k H1) := by
  obtain ⟨ι, τ, S, r, ρ, pk⟩ := h
  refine ⟨ι, τ, S, r, ρ, pk.next.mono ?_⟩
  rintro x H1 ⟨p, ι1, S1, e1, r1, q1, pk1⟩
  cases p with
  | bl k => exact ⟨k, q1, pk1 ι1 H1 k .refl r1 rfl⟩
  | _ => exact pk1.elim
theorem gE_mono {α β : Type} {R : RR α β} {m : EM α} {σ : L2.St} {H : Hp} {Q Q' : β → Hp → Prop} (h : gE X W R m σ H Q) (w : ∀ x H1, Q x H1 → Q' x H1) : gE X W R m σ H Q' := by
  obtain ⟨ι, τ, S, r, ρ, pk⟩ := h
  exact ⟨ι, τ, S, r, ρ, pk.mono w⟩
theorem rt_cmp {op : CmpOp} (ho : OpR X (compareOp op) (gOp X f)) (ha : RE X W a ma) (hb : RE X W b mb) (hm : behindInMarks op b = false := by first | exact nomark _ | rfl) : RT X W (.Compare a [op] [b] pos) (blM (binM f ma mb)) :=
  ⟨pt_weak (pt_cmpR ho ha.pe hb.pe hm) fun σ H Q h => bin_read σ H _ (bl_read σ H Q h)⟩
/-- a < b < c -/
def chainM (f f' : Op2) (ma mb mc : EM PV) : EM PV := fun τ S => bnd (ma τ S) fun p S1 => bnd (mb τ S1) fun q S2 => bnd (lift (f p q S2)) fun v S3 =>
  match v with | .bl true => bnd (mc τ S3) fun z S4 => lift (f' q z S4) | .bl false => .ok (.bl false) S3 | _ => .bad
def rtB {α : Type} (m : EM α) : EM α := m
theorem chain_read (σ : L2.St) (H : Hp) (Q : VK) (h : gE X W (rV X) (chainM f f' ma mb mc) σ H Q) : tChain (gOp X f) (gOp X f') (gE X W (rV X) ma) (gE X W (rV X) mb) (gE X W (rV X) mc) σ H Q := by
  obtain ⟨ι, τ, S, r, ρ, pk⟩ := h
  refine ⟨ι, τ, S, r, ρ, pk.next.mono ?_⟩
  rintro x H1 ⟨p, ι1, S1, e1, r1, q1, pk1⟩
  refine ⟨ι1, τ, S1, r1, ρ.up e1, pk1.next.mono ?_⟩
  rintro y H2 ⟨q, ι2, S2, e2, r2, q2, pk2⟩
  obtain ⟨v, S', hf, k⟩ := pk_lift (R := rV X) (Q := fun z H3 => ∃ a ι3 S3, Ext ι2 H2 ι3 H3 ∧ RSt X.K X.mg ι3 H3 S3 ∧ rV X ι3 H3 a z ∧ _) pk2.next
  refine ⟨ι2, S2, p, q, v, S', r2, q1.up e2, q2, hf, fun ι3 H3 z e3 r3 qz => ?_⟩
  obtain ⟨v3, ι4, S4, e4, r4, q4, pk4⟩ := k ι3 H3 z e3 r3 qz
  cases v3 with
  | bl k =>
    refine ⟨k, q4, ?_⟩
    cases k with
    | false => exact pk4 _ _ _ .refl r4 rfl
    | true =>
      rw [if_pos rfl]
      refine ⟨ι4, τ, S4, r4, ((ρ.up e1).up e2).up e4, pk4.next.mono ?_⟩
      rintro w H5 ⟨z5, ι5, S5, e5, r5, q5, pk5⟩
      obtain ⟨v6, S6, hf6, k6⟩ := pk_lift pk5
      exact ⟨ι5, S5, q, z5, v6, S6, r5, (q2.up e4).up e5, q5, hf6, k6⟩
  | _ => exact pk4.elim
theorem re_chain {op op' : CmpOp} (ho : OpR X (compareOp op) (gOp X f)) (ho' : OpR X (compareOp op') (gOp X f')) (ha : RE X W a ma) (hb : RE X W b mb) (hc : RE X W c mc) (hm : lastMarks [op, op'] [b, c] = false := by rfl)
    : RE X W (.Compare a [op, op'] [b, c] pos) (chainM f f' ma mb mc) :=
  ⟨pe_weak (pe_chain ho ho' ha.pe hb.pe hc.pe hm) chain_read⟩
theorem rt_chain {op op' : CmpOp} (ho : OpR X (compareOp op) (gOp X f)) (ho' : OpR X (compareOp op') (gOp X f')) (ha : RE X W a ma) (hb : RE X W b mb) (hc : RE X W c mc) (hm : lastMarks [op, op'] [b, c] = false := by rfl)
    : RT X W (.Compare a [op, op'] [b, c] pos) (blM (chainM f f' ma mb mc)) :=
  ⟨pt_weak (pt_chain ho ho' ha.pe hb.pe hc.pe hm) fun σ H Q h => chain_read σ H _ (bl_read σ H Q h)⟩
end
end PL
/-! PLC: expressions. -/
namespace PL
open PySem PySem.Spec PyProof.Rows L2
section
variable {X : Cx} {W : WX} {a b c e : Expr} {es rest : List Expr} {ma mb mc : EM PV} {tA tB' : EM Bool} {mas : EM (List PV)} {pos : Pos}
/-! ### names, constants -/
def vV (i : Nat) : EM PV := fun τ S => match τ[i]? with | some (some v) => .ok v S | _ => .bad
def cV (v : PV) : EM PV := fun _ S => .ok v S
@[simp] theorem cV_ap (v : PV) (τ : En) (S : Sto) : cV v τ S = .ok v S := rfl
theorem re_var (i : Nat) {x : Str} (hN : X.N[i]? = some x := by rfl) (hv : Vis X.env.scope x := by first | exact Or.inl rfl | exact Or.inr (Or.inl rfl) | exact Or.inr (Or.inr rfl)) (hd : (x == ("__debug__" : Str)) = false := by decide)
    (hcd : (x == ("__classdict__" : Str)) = false := by decide) : RE X W (.Name x pos) (vV i) := by
  refine ⟨pe_weak (pe_var hN hv hd hcd) fun σ H Q h => ?_⟩
  obtain ⟨ι, τ, S, r, ρ, pk⟩ := h
  cases hτ : τ[i]? with
  | none => simp only [vV, hτ] at pk; exact pk.elim
  | some o =>
    cases o with
    | none => simp only [vV, hτ] at pk; exact pk.elim
    | some v =>
      simp only [vV, hτ] at pk
      obtain ⟨x, h1, h2⟩ := ρ.get hτ
      exact ⟨x, h1, pk _ _ _ .refl r h2⟩
theorem re_cst {v : PV} {w : V} {e : Expr} (h : PE X e (tC w)) (r0 : ∀ ι H, Rp X.K ι H v w) : RE X W e (cV v) := by
  refine ⟨pe_weak h fun σ H Q h => ?_⟩
  obtain ⟨ι, τ, S, r, ρ, pk⟩ := h
  exact pk _ _ _ .refl r (r0 _ _)
theorem re_int {i j} : RE X W (.Constant (.int i) j pos) (cV (.int i)) := re_cst pe_int fun _ _ => rfl
theorem re_bl {i j} : RE X W (.Constant (.bool i) j pos) (cV (.bl i)) := re_cst pe_bl fun _ _ => rfl
theorem re_non {j} : RE X W (.Constant .none j pos) (cV .non) := re_cst pe_non fun _ _ => rfl
theorem re_str {i j} : RE X W (.Constant (.str i) j pos) (cV (.str i)) := re_cst pe_str fun _ _ => rfl
/-- a module's name whose value is flat -/
theorem re_glob {x : Str} {v : PV} {w : V} {u : Value} (hg : Gl X x) (hm : X.mg x = some u) (r : RelV w u) (r0 : ∀ ι H, Rp X.K ι H v w) (hd : (x == ("__debug__" : Str)) = false := by decide) : RE X W (.Name x pos) (cV v) := re_cst (pe_glob hg hm r hd) r0
/-! ### is None -/
def isNon : PV → Bool
  | .non => true
  | _ => false
def isNM (m : EM PV) : EM PV := fun τ S => bnd (m τ S) fun p S1 => .ok (.bl (isNon p)) S1
def notNM (m : EM PV) : EM PV := fun τ S => bnd (m τ S) fun p S1 => .ok (.bl (!isNon p)) S1
theorem rp_non {K : PySem.W.Frag} {ι : List Addr} {H : Hp} {p : PV} {x : V} (h : Rp K ι H p x) : decide (x = .non) = isNon p := by
  cases p with
  | non => have h : x = _ := h; subst h; rfl
  | bl b => have h : x = _ := h; subst h; rfl
  | int b => have h : x = _ := h; subst h; rfl
  | str b => have h : x = _ := h; subst h; rfl
  | tup xs => obtain ⟨_, _, rfl, _⟩ := h; rfl
  | fls xs => obtain ⟨_, _, rfl, _⟩ := h; rfl
  | loc l => obtain ⟨_, rfl, _⟩ := h; rfl
theorem isN_read (σ : L2.St) (H : Hp) (Q : VK) (h : gE X W (rV X) (isNM ma) σ H Q) : tIsN (gE X W (rV X) ma) σ H Q := by
  obtain ⟨ι, τ, S, r, ρ, pk⟩ := h
  refine ⟨ι, τ, S, r, ρ, pk.next.mono ?_⟩
  rintro x H1 ⟨p, ι1, S1, e1, r1, q1, pk1⟩
  exact pk1 _ _ _ .refl r1 (by rw [rp_non q1]; rfl)
theorem notN_read (σ : L2.St) (H : Hp) (Q : VK) (h : gE X W (rV X) (notNM ma) σ H Q) : tNotN (gE X W (rV X) ma) σ H Q := by
  obtain ⟨ι, τ, S, r, ρ, pk⟩ := h
  refine ⟨ι, τ, S, r, ρ, pk.next.mono ?_⟩
  rintro x H1 ⟨p, ι1, S1, e1, r1, q1, pk1⟩
  exact pk1 _ _ _ .refl r1 (by rw [rp_non q1]; rfl)
theorem re_isN {j pos'} (ha : RE X W a ma) : RE X W (.Compare a [.Is] [.Constant .none j pos'] pos) (isNM ma) := ⟨pe_weak (pe_cmp (pc_isN ha.pe)) isN_read⟩
theorem re_notN {j pos'} (ha : RE X W a ma) : RE X W (.Compare a [.IsNot] [.Constant .none j pos'] pos) (notNM ma) := ⟨pe_weak (pe_cmp (pc_notN ha.pe)) notN_read⟩
theorem rt_isN {j pos'} (ha : RE X W a ma) : RT X W (.Compare a [.Is] [.Constant .none j pos'] pos) (blM (isNM ma)) := ⟨pt_weak (pt_cmp (pc_isN ha.pe)) fun σ H Q h => isN_read σ H _ (bl_read σ H Q h)⟩
theorem rt_notN {j pos'} (ha : RE X W a ma) : RT X W (.Compare a [.IsNot] [.Constant .none j pos'] pos) (blM (notNM ma)) := ⟨pt_weak (pt_cmp (pc_notN ha.pe)) fun σ H Q h => notN_read σ H _ (bl_read σ H Q h)⟩
/-! ### truth -/
def truP (p : PV) (S : Sto) : Option Bool := match p with
  | .non => some false
  | .bl b => some b
  | .int i => some (i != 0)
  | .str x => if x.length ≤ 16777216 then some ((x.length : Int) != 0) else none
  | .tup xs => some (!xs.isEmpty)
  | .fls xs => some (!xs.isEmpty)
  | .loc l => match S[l]? with
    | some (.lst xs) => some (!xs.isEmpty)
    | some (.dct kvs) => some (!kvs.isEmpty)
    | _ => none
def truM (m : EM PV) : EM Bool := fun τ S => bnd (m τ S) fun p S1 => match truP p S1 with | some b => .ok b S1 | none => .bad
theorem RpL.isEmpty {K : PySem.W.Frag} {ι : List Addr} {H : Hp} {xs : List PV} {vs : List V} (h : RpL K ι H xs vs) : xs.isEmpty = vs.isEmpty := by
  have := h.length
  cases xs <;> cases vs <;> simp_all
theorem RpF.isEmpty {K : PySem.W.Frag} {ι : List Addr} {H : Hp} {κ : Type} {xs : List (κ × PV)} {vs : List (κ × V)} (h : RpF K ι H xs vs) : xs.isEmpty = vs.isEmpty := by
  have := h.length
  cases xs <;> cases vs <;> simp_all
theorem tru_ok' {ι : List Addr} {H : Hp} {S : Sto} {p : PV} {x : V} {b : Bool} (r : RSt X.K X.mg ι H S) (q : Rp X.K ι H p x) (h : truP p S = some b) : TruV X.K x H b := by
  cases p with
  | non => have q : x = _ := q; subst q; have h : some false = some b := h; cases h; exact rfl
  | bl k => have q : x = _ := q; subst q; have h : some k = some b := h; cases h; exact rfl
  | int i => have q : x = _ := q; subst q; have h : some (i != 0) = some b := h; cases h; exact rfl
  | str y =>
    have q : x = _ := q
    subst q
    unfold truP at h
    simp only at h
    split at h
    · rename_i hl
      cases h
      exact ⟨by rw [sizeLine_eq]; exact hl, rfl⟩
    · cases h
  | tup xs =>
    obtain ⟨a, vs, rfl, h1, h2⟩ := q
    have h : some (!xs.isEmpty) = some b := h
    cases h
    exact .inr (.inl ⟨vs, h1.seq, by rw [h2.isEmpty]⟩)
  | fls xs =>
    obtain ⟨a, vs, rfl, h1, h2⟩ := q
    have h : some (!xs.isEmpty) = some b := h
    cases h
    exact .inl ⟨vs, h1.seq, by rw [h2.isEmpty]⟩
  | loc l =>
    obtain ⟨a, rfl, h1⟩ := q
    unfold truP at h
    simp only at h
    cases hS : S[l]? with
    | none => rw [hS] at h; cases h
    | some o =>
      rw [hS] at h
      have ho := r.obj l a o h1 hS
      cases o with
      | lst xs =>
        cases h
        obtain ⟨vs, h3, h4⟩ := ho
        exact .inl ⟨vs, .of h3, by rw [h4.isEmpty]⟩
      | dct kvs =>
        cases h
        obtain ⟨vs, h3, h4⟩ := ho
        exact .inr (.inr ⟨vs, h3, by rw [h4.isEmpty]⟩)
      | ins C fs => cases h
theorem rt_tru (ha : RE X W a ma) (he : ∀ whole, isTrue a X.env whole = (do let v ← whole; standAt a.pos; holding [v] (truthy v)) := by intro _; rfl) : RT X W a (truM ma) := by
  refine ⟨pt_weak (pt_truth ha.pe he) fun σ H Q h => ?_⟩
  obtain ⟨ι, τ, S, r, ρ, pk⟩ := h
  refine ⟨ι, τ, S, r, ρ, pk.next.mono ?_⟩
  rintro x H1 ⟨p, ι1, S1, e1, r1, q1, pk1⟩
  cases ht : truP p S1 with
  | none => rw [ht] at pk1; exact pk1.elim
  | some k =>
    rw [ht] at pk1
    exact ⟨k, tru_ok' r1 q1 ht, pk1 _ _ _ .refl r1 rfl⟩
/-! ### and, or, not, if -/
def andM (s t : EM Bool) : EM Bool := fun τ S => bnd (s τ S) fun k S1 => if k = true then t τ S1 else .ok false S1
def orM (s t : EM Bool) : EM Bool := fun τ S => bnd (s τ S) fun k S1 => if k = true then .ok true S1 else t τ S1
def notM (s : EM Bool) : EM Bool := fun τ S => bnd (s τ S) fun k S1 => .ok (!k) S1
theorem rt_of (h : RW X W e tA) : RT X W e tA := ⟨h.pw.pt⟩
theorem rw_and1 (ha : RT X W a tA) : RW X W (.BoolOp .And [a] pos) tA := ⟨pw_and1 ha.pt⟩
theorem rw_or1 (ha : RT X W a tA) : RW X W (.BoolOp .Or [a] pos) tA := ⟨pw_or1 ha.pt⟩
theorem rw_and (ha : RT X W a tA) (hb : RW X W (.BoolOp .And (b :: rest) pos) tB') : RW X W (.BoolOp .And (a :: b :: rest) pos) (andM tA tB') := by
  refine ⟨pw_weak (pw_and ha.pt hb.pw) fun σ H Q h => ?_⟩
  obtain ⟨ι, τ, S, r, ρ, pk⟩ := h
  refine ⟨ι, τ, S, r, ρ, pk.next.mono ?_⟩
  rintro k H1 ⟨k', ι1, S1, e1, r1, q1, pk1⟩
  have q1 : k' = k := q1
  subst q1
  cases k' with
  | true => rw [if_pos rfl] at pk1 ⊢; exact ⟨ι1, τ, S1, r1, ρ.up e1, pk1⟩
  | false => exact pk1 _ _ _ .refl r1 rfl
theorem rw_or (ha : RT X W a tA) (hb : RW X W (.BoolOp .Or (b :: rest) pos) tB') : RW X W (.BoolOp .Or (a :: b :: rest) pos) (orM tA tB') := by
  refine ⟨pw_weak (pw_or ha.pt hb.pw) fun σ H Q h => ?_⟩
  obtain ⟨ι, τ, S, r, ρ, pk⟩ := h
  refine ⟨ι, τ, S, r, ρ, pk.next.mono ?_⟩
  rintro k H1 ⟨k', ι1, S1, e1, r1, q1, pk1⟩
  have q1 : k' = k := q1
  subst q1
  cases k' with
  | true => rw [if_pos rfl] at pk1 ⊢; exact pk1 _ _ _ .refl r1 rfl
  | false => exact ⟨ι1, τ, S1, r1, ρ.up e1, pk1⟩
theorem rt_not (ha : RT X W a tA) : RT X W (.UnaryOp .Not a pos) (notM tA) := by
  refine ⟨pt_weak (pt_not ha.pt) fun σ H Q h => ?_⟩
  obtain ⟨ι, τ, S, r, ρ, pk⟩ := h
  refine ⟨ι, τ, S, r, ρ, pk.next.mono ?_⟩
  rintro k H1 ⟨k', ι1, S1, e1, r1, q1, pk1⟩
  have q1 : k' = k := q1
  subst q1
  exact pk1 _ _ _ .refl r1 rfl
/-- as values: all but the last one truths -/
def andV (s t : EM PV) : EM PV := fun τ S => bnd (s τ S) fun v S1 => match v with | .bl true => t τ S1 | .bl false => .ok (.bl false) S1 | _ => .bad
def orV (s t : EM PV) : EM PV := fun τ S => bnd (s τ S) fun v S1 => match v with | .bl true => .ok (.bl true) S1 | .bl false => t τ S1 | _ => .bad
def notV (s : EM PV) : EM PV := fun τ S => bnd (s τ S) fun v S1 => match v with | .bl k => .ok (.bl (!k)) S1 | _ => .bad
theorem re_one {op} (h : RE X W a ma) : RE X W (.BoolOp op [a] pos) ma := ⟨pe_one h.pe⟩
theorem re_and (ha : RE X W a ma) (hb : RE X W (.BoolOp .And (b :: rest) pos) mb) : RE X W (.BoolOp .And (a :: b :: rest) pos) (andV ma mb) := by
  refine ⟨pe_weak (pe_and ha.pe hb.pe) fun σ H Q h => ?_⟩
  obtain ⟨ι, τ, S, r, ρ, pk⟩ := h
  refine ⟨ι, τ, S, r, ρ, pk.next.mono ?_⟩
  rintro x H1 ⟨p, ι1, S1, e1, r1, q1, pk1⟩
  cases p with
  | bl k =>
    refine ⟨k, q1, ?_⟩
    cases k with
    | true => exact ⟨ι1, τ, S1, r1, ρ.up e1, pk1⟩
    | false => exact pk1 _ _ _ .refl r1 rfl
  | _ => exact pk1.elim
theorem re_or (ha : RE X W a ma) (hb : RE X W (.BoolOp .Or (b :: rest) pos) mb) : RE X W (.BoolOp .Or (a :: b :: rest) pos) (orV ma mb) := by
  refine ⟨pe_weak (pe_or ha.pe hb.pe) fun σ H Q h => ?_⟩
  obtain ⟨ι, τ, S, r, ρ, pk⟩ := h
  refine ⟨ι, τ, S, r, ρ, pk.next.mono ?_⟩
  rintro x H1 ⟨p, ι1, S1, e1, r1, q1, pk1⟩
  cases p with
  | bl k =>
    refine ⟨k, q1, ?_⟩
    cases k with
    | false => exact ⟨ι1, τ, S1, r1, ρ.up e1, pk1⟩
    | true => exact pk1 _ _ _ .refl r1 rfl
  | _ => exact pk1.elim
theorem re_not (ha : RE X W a ma) : RE X W (.UnaryOp .Not a pos) (notV ma) := by
  refine ⟨pe_weak (pe_not ha.pe) fun σ H Q h => ?_⟩
  obtain ⟨ι, τ, S, r, ρ, pk⟩ := h
  refine ⟨ι, τ, S, r, ρ, pk.next.mono ?_⟩
  rintro x H1 ⟨p, ι1, S1, e1, r1, q1, pk1⟩
  cases p with
  | bl k => exact ⟨k, q1, pk1 _ _ _ .refl r1 rfl⟩
  | _ => exact pk1.elim
/-- x or y of any values -/
def orTM (s t : EM PV) : EM PV := fun τ S => bnd (s τ S) fun v S1 => match truP v S1 with | some true => .ok v S1 | some false => t τ S1 | none => .bad
theorem re_orT (ha : RE X W a ma) (hb : RE X W (.BoolOp .Or (b :: rest) pos) mb) : RE X W (.BoolOp .Or (a :: b :: rest) pos) (orTM ma mb) := by
  refine ⟨pe_weak (pe_orT ha.pe hb.pe) fun σ H Q h => ?_⟩
  obtain ⟨ι, τ, S, r, ρ, pk⟩ := h
  refine ⟨ι, τ, S, r, ρ, pk.next.mono ?_⟩
  rintro x H1 ⟨p, ι1, S1, e1, r1, q1, pk1⟩
  cases ht : truP p S1 with
  | none => rw [ht] at pk1; exact pk1.elim
  | some k =>
    rw [ht] at pk1
    refine ⟨k, tru_ok' r1 q1 ht, ?_⟩
    cases k with
    | true => exact pk1 _ _ _ .refl r1 q1
    | false => exact ⟨ι1, τ, S1, r1, ρ.up e1, pk1⟩
def ifM (c : EM Bool) (s t : EM PV) : EM PV := fun τ S => bnd (c τ S) fun k S1 => if k = true then s τ S1 else t τ S1
theorem re_if (hc : RT X W c tA) (ha : RE X W a ma) (hb : RE X W b mb) : RE X W (.IfExp c a b pos) (ifM tA ma mb) := by
  refine ⟨pe_weak (pe_ifExp hc.pt ha.pe hb.pe) fun σ H Q h => ?_⟩
  obtain ⟨ι, τ, S, r, ρ, pk⟩ := h
  refine ⟨ι, τ, S, r, ρ, pk.next.mono ?_⟩
  rintro k H1 ⟨k', ι1, S1, e1, r1, q1, pk1⟩
  have q1 : k' = k := q1
  subst q1
  cases k' with
  | true => exact ⟨ι1, τ, S1, r1, ρ.up e1, pk1⟩
  | false => exact ⟨ι1, τ, S1, r1, ρ.up e1, pk1⟩
/-! ### argument lists, displays -/
def aN : EM (List PV) := fun _ S => .ok [] S
def aC (m : EM PV) (ms : EM (List PV)) : EM (List PV) := fun τ S => bnd (m τ S) fun p S1 => bnd (ms τ S1) fun ps S2 => .ok (p :: ps) S2
theorem ra_nil : RA X W [] aN := by
  refine ⟨pa_weak pa_nil fun σ H Q h => ?_⟩
  obtain ⟨ι, τ, S, r, ρ, pk⟩ := h
  exact pk _ _ _ .refl r rfl
theorem ra_cons (ha : RE X W e ma) (hr : RA X W es mas) (hs : starEach (e :: es) X.env = (false, eval e X.env) :: starEach es X.env := by rfl) : RA X W (e :: es) (aC ma mas) := by
  refine ⟨pa_weak (pa_cons ha.pe hr.pa hs) fun σ H Q h => ?_⟩
  obtain ⟨ι, τ, S, r, ρ, pk⟩ := h
  refine ⟨ι, τ, S, r, ρ, pk.next.mono ?_⟩
  rintro x H1 ⟨p, ι1, S1, e1, r1, q1, pk1⟩
  refine ⟨ι1, τ, S1, r1, ρ.up e1, pk1.next.mono ?_⟩
  rintro xs H2 ⟨ps, ι2, S2, e2, r2, q2, pk2⟩
  exact pk2 _ _ _ .refl r2 ⟨x, xs, rfl, q1.up e2, q2⟩
def tupM (ms : EM (List PV)) : EM PV := fun τ S => bnd (ms τ S) fun ps S1 => if ps.length ≤ 16777216 then .ok (.tup ps) S1 else .bad
def lstM (ms : EM (List PV)) : EM PV := fun τ S => bnd (ms τ S) fun ps S1 => if ps.length ≤ 16777216 then .ok (.loc S1.length) (S1 ++ [.lst ps]) else .bad
theorem re_tup {x1} (h : RA X W es mas) : RE X W (.Tuple es x1 pos) (tupM mas) := by
  refine ⟨pe_weak (PLz.pe_tupZ h.pa) fun σ H Q h => ?_⟩
  obtain ⟨ι, τ, S, r, ρ, pk⟩ := h
  refine ⟨ι, τ, S, r, ρ, pk.next.mono ?_⟩
  rintro xs H1 ⟨ps, ι1, S1, e1, r1, q1, pk1⟩
  split at pk1
  · rename_i hl
    refine ⟨by rw [← q1.length, sizeLine_eq]; exact hl, fun p hp o ho => ?_⟩
    obtain ⟨E, r2⟩ := r1.tup (ho := .frz o (.tup xs)) hp
    exact pk1 _ _ _ E r2 ⟨p, xs, rfl, .inl ⟨o, upd_same, ho⟩, q1.up E⟩
  · exact pk1.elim
theorem re_lst (h : RA X W es mas) : RE X W (.List es pos) (lstM mas) := by
  refine ⟨pe_weak (pe_lst h.pa) fun σ H Q h => ?_⟩
  obtain ⟨ι, τ, S, r, ρ, pk⟩ := h
  refine ⟨ι, τ, S, r, ρ, pk.next.mono ?_⟩
  rintro xs H1 ⟨ps, ι1, S1, e1, r1, q1, pk1⟩
  split at pk1
  · rename_i hl
    refine ⟨by rw [← q1.length, sizeLine_eq]; exact hl, fun p hp => ?_⟩
    obtain ⟨E, r2, q2⟩ := r1.new_lst hp q1
    exact pk1 _ _ _ E r2 q2
  · exact pk1.elim
/-! ### subscripts -/
/-- the items of a list or tuple -/
def itemsP (p : PV) (S : Sto) : Option (List PV) := match p with
  | .tup xs => some xs
  | .fls xs => some xs
  | .loc l => match S[l]? with | some (.lst xs) => some xs | _ => none
  | _ => none
def keyP : PV → Option Key
  | .int i => some (.inl i)
  | .str x => some (.inr x)
  | _ => none
def getP : Op2 := fun p q S => match p, q with
  | .tup xs, .int i => (atI xs i).map fun v => (v, S)
  | .fls xs, .int i => (atI xs i).map fun v => (v, S)
  | .str x, .int i => if x.length ≤ 16777216 then (atI x.cps.toList i).map fun c => (.str ⟨#[c]⟩, S) else none
  | .loc l, q => match S[l]?, q with
    | some (.lst xs), .int i => (atI xs i).map fun v => (v, S)
    | _, _ => none
  | _, _ => none
theorem RpL.at {K : PySem.W.Frag} {ι : List Addr} {H : Hp} {xs : List PV} {vs : List V} {i : Int} {x : PV} (h : RpL K ι H xs vs) (e : atI xs i = some x) : ∃ v, atI vs i = some v ∧ Rp K ι H x v := by
  unfold atI at e ⊢
  rw [← h.length]
  cases q : ixN xs.length i with
  | none => rw [q] at e; cases e
  | some j =>
    rw [q] at e
    exact h.get (i := j) e
end
end PL
/-! PLD: operators, subscripts, slices. -/
namespace PL
open PySem PySem.Spec PyProof.Rows L2

/-! ### data -/
mutual
def toD : PV → Option PyData
  | .non => some .none
  | .bl b => some (.bool b)
  | .int i => some (.int i)
  | .str x => some (.str x)
  | .tup xs => (toDL xs).map .tuple
  | .fls xs => (toDL xs).map .list
  | .loc _ => none
def toDL : List PV → Option (List PyData)
  | [] => some []
  | x :: xs => (toD x).bind fun d => (toDL xs).map fun ds => d :: ds
end
def toDS (S : Sto) : PV → Option PyData
  | .loc l => match S[l]? with | some (.lst xs) => (toDL xs).map .list | _ => none
  | p => toD p
section
variable {K : PySem.W.Frag} {mg : Str → Option Value} {ι : List Addr} {H : Hp}
mutual
theorem toD_dp : ∀ (p : PV) (d : PyData) (v : V), toD p = some d → Rp K ι H p v → Dp K H v d
  | .non, d, v, h, r => by cases h; cases (show v = _ from r); exact .non
  | .bl b, d, v, h, r => by cases h; cases (show v = _ from r); exact .bl b
  | .int b, d, v, h, r => by cases h; cases (show v = _ from r); exact .int b
  | .str b, d, v, h, r => by cases h; cases (show v = _ from r); exact .str b
  | .tup xs, d, v, h, r => by
    obtain ⟨a, vs, rfl, h1, h2⟩ := r
    unfold toD at h
    cases q : toDL xs with
    | none => rw [q] at h; cases h
    | some ds =>
      rw [q] at h
      cases h
      exact .tup h1.seq (toDL_dp xs ds vs q h2)
  | .fls xs, d, v, h, r => by
    obtain ⟨a, vs, rfl, h1, h2⟩ := r
    unfold toD at h
    cases q : toDL xs with
    | none => rw [q] at h; cases h
    | some ds =>
      rw [q] at h
      cases h
      exact .lst h1.seq (toDL_dp xs ds vs q h2)
  | .loc _, d, v, h, r => by cases h
theorem toDL_dp : ∀ (xs : List PV) (ds : List PyData) (vs : List V), toDL xs = some ds → RpL K ι H xs vs → DpAll K H vs ds
  | [], ds, vs, h, r => by cases h; cases (show vs = _ from r); exact .nil
  | x :: xs, ds, vs, h, r => by
    obtain ⟨v, w, rfl, h1, h2⟩ := r
    unfold toDL at h
    cases q : toD x with
    | none => rw [q] at h; cases h
    | some d =>
      cases q2 : toDL xs with
      | none => rw [q, q2] at h; cases h
      | some es =>
        rw [q, q2] at h
        cases h
        exact .cons (toD_dp x d v q h1) (toDL_dp xs es w q2 h2)
end
theorem toDS_dp {S : Sto} (r0 : RSt K mg ι H S) : ∀ (p : PV) (d : PyData) (v : V), toDS S p = some d → Rp K ι H p v → Dp K H v d := by
  intro p d v h r
  cases p with
  | loc l =>
    obtain ⟨a, rfl, h1⟩ := r
    unfold toDS at h
    simp only at h
    cases hS : S[l]? with
    | none => rw [hS] at h; cases h
    | some o =>
      rw [hS] at h
      cases o with
      | lst xs =>
        obtain ⟨vs, h3, h4⟩ := r0.obj l a _ h1 hS
        cases q : toDL xs with
        | none => simp only [q] at h; cases h
        | some ds =>
          simp only [q] at h
          cases h
          exact .lst (.of h3) (toDL_dp xs ds vs q h4)
      | dct _ => cases h
      | ins _ _ => cases h
  | _ => exact toD_dp _ d v h r
end

/-! ### arithmetic -/
def intOp (f : Int → Int → Option PV) : Op2 := fun p q S => match p, q with
  | .int i, .int j => (f i j).map fun v => (v, S)
  | _, _ => none
section
variable {X : Cx}
theorem op_intOp {g : Value → Value → Sem Value} {f : Int → Int → Option PV} {r : R2} (ho : OpR X g r) (h : ∀ i j v H Q, f i j = some v → (∃ w, (∀ ι H', Rp X.K ι H' v w) ∧ (Q w H → r (.int i) (.int j) H Q))) : OpR X g (gOp X (intOp f)) := by
  intro pins s σ H x y v u Q I rx ry ⟨ι, S, p, q, z, S', rs, rp, rq, hf, k⟩
  unfold intOp at hf
  split at hf
  · rename_i i j
    cases hz : f i j with
    | none => rw [hz] at hf; cases hf
    | some w =>
      rw [hz] at hf
      cases hf
      cases (show x = _ from rp)
      cases (show y = _ from rq)
      obtain ⟨w', h1, h2⟩ := h i j _ H Q hz
      exact ho pins s σ H _ _ v u Q I rx ry (h2 (k ι H w' .refl rs (h1 _ _)))
  · cases hf
def subP : Op2 := intOp fun i j => some (.int (i - j))
def mulP : Op2 := fun p q S => match p, q with
  | .int i, .int j => if (-(2 ^ 64) < i ∧ i < 2 ^ 64) ∨ (-(2 ^ 64) < j ∧ j < 2 ^ 64) then some (.int (i * j), S) else none
  | .str x, .int n => if 0 ≤ n ∧ n ≤ 1000000 ∧ x.length ≤ 16777216 ∧ x.length * n.toNat ≤ 16777216 then some (.str (Txt.mul x n), S) else none
  | _, _ => none
theorem mulOk_of {x : Str} {n : Int} (h0 : 0 ≤ n) (h1 : n ≤ 1000000) (h2 : x.length ≤ 16777216) (h3 : x.length * n.toNat ≤ 16777216) : MulOk x n := by
  refine ⟨by simp; omega, fun hn _ => ?_, fun _ _ => ?_⟩
  · have : (16777216 : Int) ≤ (2 ^ 63 - 1) / n := by
      rw [Int.le_ediv_iff_mul_le (by omega)]
      omega
    omega
  · simp [Builtin.Str.tooLong, sizeLine_eq]; exact h3
def fdivP : Op2 := intOp fun i j => if 0 < j ∧ j.natAbs < 1267650600228229401496703205376 then some (.int (i / j)) else none
def modP : Op2 := intOp fun i j => if 0 < j then some (.int (i % j)) else none
def powP : Op2 := intOp fun i j => if 0 ≤ j ∧ j ≤ 1000000 ∧ i.natAbs < 2 ^ 64 then some (.int (i ^ j.toNat)) else none
theorem og_sub : OpR X (binaryOp .Sub) (gOp X subP) := op_intOp op_sub fun i j v H Q h => by cases h; exact ⟨_, fun _ _ => rfl, fun q => ⟨i, j, rfl, rfl, q⟩⟩
theorem og_mul : OpR X (binaryOp .Mult) (gOp X mulP) := by
  intro pins s σ H x y v u Q I rx ry ⟨ι, S, p, q, z, S', rs, rp, rq, hf, k⟩
  unfold mulP at hf
  split at hf
  · split at hf
    · rename_i c
      cases hf
      cases (show x = _ from rp)
      cases (show y = _ from rq)
      exact op_mul pins s σ H _ _ v u Q I rx ry ⟨_, _, rfl, rfl, c, k ι H _ .refl rs rfl⟩
    · cases hf
  · split at hf
    · rename_i x n c
      cases hf
      cases (show _ = _ from rp)
      cases (show y = _ from rq)
      obtain ⟨t, rfl⟩ := rx
      obtain ⟨t', rfl⟩ := ry
      exact SB.mul (mulOk_of c.1 c.2.1 c.2.2.1 c.2.2.2) fun t' tk => ⟨.str (Txt.mul x n), H, I.tok _, ⟨_, rfl⟩, k ι H _ .refl rs rfl⟩
    · cases hf
  · cases hf
theorem og_fdiv : OpR X (binaryOp .FloorDiv) (gOp X fdivP) := op_intOp op_fdivW fun i j v H Q h => by
  split at h
  · rename_i c
    cases h
    exact ⟨_, fun _ _ => rfl, fun q => ⟨i, j, rfl, rfl, wide_div (b := 100) c.1 c.2 (by decide) (by decide), q⟩⟩
  · cases h
theorem og_mod : OpR X (binaryOp .Mod) (gOp X modP) := op_intOp op_mod fun i j v H Q h => by
  split at h
  · rename_i c
    cases h
    exact ⟨_, fun _ _ => rfl, fun q => ⟨i, j, rfl, rfl, c, q⟩⟩
  · cases h
theorem og_pow : OpR X (binaryOp .Pow) (gOp X powP) := op_intOp op_pow fun i j v H Q h => by
  split at h
  · rename_i c
    cases h
    exact ⟨_, fun _ _ => rfl, fun q => ⟨i, j, rfl, rfl, c, q⟩⟩
  · cases h
/-- + of ints, texts, lists, tuples -/
def addP : Op2 := fun p q S => match p, q with
  | .int i, .int j => some (.int (i + j), S)
  | .str a, .str b => if a.length + b.length ≤ 16777216 then some (.str (a ++ b), S) else none
  | .tup a, .tup b => if a.length + b.length ≤ 16777216 then some (.tup (a ++ b), S) else none
  | .loc l, .loc k => match S[l]?, S[k]? with
    | some (.lst a), some (.lst b) => if a.length + b.length ≤ 16777216 then some (.loc S.length, S ++ [.lst (a ++ b)]) else none
    | _, _ => none
  | _, _ => none
theorem RpL.nil_iff {K : PySem.W.Frag} {ι : List Addr} {H : Hp} {xs : List PV} {vs : List V} (h : RpL K ι H xs vs) : vs = [] ↔ xs = [] := by
  have := h.length
  cases xs <;> cases vs <;> simp_all
theorem og_add : OpR X (binaryOp .Add) (gOp X addP) := by
  intro pins s σ H x y v u Q I rx ry ⟨ι, S, p, q, z, S', rs, rp, rq, hf, k⟩
  unfold addP at hf
  split at hf
  · cases hf
    cases (show x = _ from rp)
    cases (show y = _ from rq)
    exact op_add pins s σ H _ _ v u Q I rx ry ⟨_, _, rfl, rfl, k ι H _ .refl rs rfl⟩
  · split at hf
    · rename_i hl
      cases hf
      cases (show x = _ from rp)
      cases (show y = _ from rq)
      exact op_add_str pins s σ H _ _ v u Q I rx ry ⟨_, _, rfl, rfl, by rw [sizeLine_eq]; exact hl, k ι H _ .refl rs rfl⟩
    · cases hf
  · split at hf
    · rename_i a b hl
      cases hf
      obtain ⟨aa, vs, rfl, h1, h2⟩ := rp
      obtain ⟨bb, ws, rfl, h3, h4⟩ := rq
      refine PLz.op_catZ pins s σ H _ _ v u Q I rx ry ⟨aa, bb, vs, ws, rfl, rfl, h1.seq, h3.seq, by rw [← h2.length, ← h4.length, sizeLine_eq]; exact hl, fun e => ?_, fun _ e => ?_, fun _ _ p hp o ho => ?_⟩
      · have ea : a = [] := h2.nil_iff.mp e
        subst ea
        exact k ι H _ .refl rs ⟨bb, ws, rfl, h3, h4⟩
      · have ea : b = [] := h4.nil_iff.mp e
        subst ea
        exact k ι H _ .refl rs ⟨aa, vs, rfl, h1, by rw [List.append_nil]; exact h2⟩
      · obtain ⟨E, r2⟩ := rs.tup (ho := .frz o (.tup (vs ++ ws))) hp
        exact k _ _ _ E r2 ⟨p, _, rfl, .inl ⟨o, upd_same, ho⟩, (h2.app h4).up E⟩
    · cases hf
  · split at hf
    · rename_i a b e1 e2
      split at hf
      · rename_i hl
        cases hf
        obtain ⟨aa, rfl, h1⟩ := rp
        obtain ⟨bb, rfl, h2⟩ := rq
        obtain ⟨vs, h3, h4⟩ := rs.obj _ aa _ h1 e1
        obtain ⟨ws, h5, h6⟩ := rs.obj _ bb _ h2 e2
        refine op_cat pins s σ H _ _ v u Q I rx ry ⟨aa, bb, vs, ws, rfl, rfl, h3, h5, by rw [← h4.length, ← h6.length, sizeLine_eq]; exact hl, fun p hp => ?_⟩
        obtain ⟨E, r2, q2⟩ := rs.new_lst hp (h4.app h6)
        exact k _ _ _ E r2 q2
      · cases hf
    · cases hf
  · cases hf
/-! ### comparisons -/
def cmpI (f : Int → Int → Bool) : Op2 := intOp fun i j => some (.bl (f i j))
def ltP : Op2 := cmpI fun i j => decide (i < j)
def leP : Op2 := cmpI fun i j => decide (i ≤ j)
def gtP : Op2 := cmpI fun i j => decide (j < i)
def geP : Op2 := cmpI fun i j => decide (j ≤ i)
theorem og_lt : OpR X (compareOp .Lt) (gOp X ltP) := op_intOp op_lt fun i j v H Q h => by cases h; exact ⟨_, fun _ _ => rfl, fun q => ⟨i, j, rfl, rfl, q⟩⟩
theorem og_le : OpR X (compareOp .LtE) (gOp X leP) := op_intOp op_le fun i j v H Q h => by cases h; exact ⟨_, fun _ _ => rfl, fun q => ⟨i, j, rfl, rfl, q⟩⟩
theorem og_gt : OpR X (compareOp .Gt) (gOp X gtP) := op_intOp op_gt fun i j v H Q h => by cases h; exact ⟨_, fun _ _ => rfl, fun q => ⟨i, j, rfl, rfl, q⟩⟩
theorem og_ge : OpR X (compareOp .GtE) (gOp X geP) := op_intOp op_ge fun i j v H Q h => by cases h; exact ⟨_, fun _ _ => rfl, fun q => ⟨i, j, rfl, rfl, q⟩⟩
/-- == -/
def eqB (p q : PV) (S : Sto) : Option Bool := match p, q with
  | .int i, .int j => some (decide (i = j))
  | .str i, .str j => some (decide (i = j))
  | .bl i, .bl j => some (decide (i = j))
  | p, q => match toDS S p, toDS S q with
    | some d, some e => if SeqAt.shaped d = true ∧ SeqAt.shaped e = true then some (PyData.eqv d e) else none
    | _, _ => none
def eqP : Op2 := fun p q S => (eqB p q S).map fun b => (.bl b, S)
def neP : Op2 := fun p q S => (eqB p q S).map fun b => (.bl (!b), S)
theorem eqB_cases {p q : PV} {S : Sto} {b : Bool} (h : eqB p q S = some b) :
    (∃ i j, p = .int i ∧ q = .int j ∧ b = decide (i = j)) ∨ (∃ i j, p = .str i ∧ q = .str j ∧ b = decide (i = j)) ∨ (∃ i j, p = .bl i ∧ q = .bl j ∧ b = decide (i = j)) ∨
    ∃ d e, toDS S p = some d ∧ toDS S q = some e ∧ SeqAt.shaped d = true ∧ SeqAt.shaped e = true ∧ b = PyData.eqv d e := by
  unfold eqB at h
  split at h
  · cases h; exact .inl ⟨_, _, rfl, rfl, rfl⟩
  · cases h; exact .inr (.inl ⟨_, _, rfl, rfl, rfl⟩)
  · cases h; exact .inr (.inr (.inl ⟨_, _, rfl, rfl, rfl⟩))
  · split at h
    · rename_i d e h1 h2
      split at h
      · rename_i c
        cases h
        exact .inr (.inr (.inr ⟨d, e, h1, h2, c.1, c.2, rfl⟩))
      · cases h
    · cases h
theorem dec_i {i j : Int} : decide (V.int i = V.int j) = decide (i = j) := by by_cases h : i = j <;> simp [h]
theorem dec_s {i j : Str} : decide (V.str i = V.str j) = decide (i = j) := by by_cases h : i = j <;> simp [h]
theorem dec_b {i j : Bool} : decide (V.bl i = V.bl j) = decide (i = j) := by by_cases h : i = j <;> simp [h]
theorem og_eq (hu : X.A.units + 64 < cLine) : OpR X (compareOp .Eq) (gOp X eqP) := by
  intro pins s σ H x y v u Q I rx ry ⟨ι, S, p, q, z, S', rs, rp, rq, hf, k⟩
  unfold eqP at hf
  cases hb : eqB p q S with
  | none => rw [hb] at hf; cases hf
  | some b =>
    rw [hb] at hf
    cases hf
    have fin := k ι H (.bl b) .refl rs rfl
    rcases eqB_cases hb with ⟨i, j, rfl, rfl, rfl⟩ | ⟨i, j, rfl, rfl, rfl⟩ | ⟨i, j, rfl, rfl, rfl⟩ | ⟨d, e, h1, h2, h3, h4, rfl⟩
    · cases (show x = _ from rp); cases (show y = _ from rq)
      exact op_eq pins s σ H _ _ v u Q I rx ry ⟨rfl, by rw [dec_i]; exact fin⟩
    · cases (show x = _ from rp); cases (show y = _ from rq)
      exact op_eq pins s σ H _ _ v u Q I rx ry ⟨rfl, by rw [dec_s]; exact fin⟩
    · cases (show x = _ from rp); cases (show y = _ from rq)
      exact op_eq pins s σ H _ _ v u Q I rx ry ⟨rfl, by rw [dec_b]; exact fin⟩
    · exact op_eqD hu pins s σ H _ _ v u Q I rx ry ⟨d, e, toDS_dp rs p d x h1 rp, toDS_dp rs q e y h2 rq, h3, h4, fin⟩
theorem og_ne (hu : X.A.units + 64 < cLine) : OpR X (compareOp .NotEq) (gOp X neP) := by
  intro pins s σ H x y v u Q I rx ry ⟨ι, S, p, q, z, S', rs, rp, rq, hf, k⟩
  unfold neP at hf
  cases hb : eqB p q S with
  | none => rw [hb] at hf; cases hf
  | some b =>
    rw [hb] at hf
    cases hf
    have fin := k ι H (.bl (!b)) .refl rs rfl
    rcases eqB_cases hb with ⟨i, j, rfl, rfl, rfl⟩ | ⟨i, j, rfl, rfl, rfl⟩ | ⟨i, j, rfl, rfl, rfl⟩ | ⟨d, e, h1, h2, h3, h4, rfl⟩
    · cases (show x = _ from rp); cases (show y = _ from rq)
      exact op_ne pins s σ H _ _ v u Q I rx ry ⟨rfl, by rw [dec_i]; exact fin⟩
    · cases (show x = _ from rp); cases (show y = _ from rq)
      exact op_ne pins s σ H _ _ v u Q I rx ry ⟨rfl, by rw [dec_s]; exact fin⟩
    · cases (show x = _ from rp); cases (show y = _ from rq)
      exact op_ne pins s σ H _ _ v u Q I rx ry ⟨rfl, by rw [dec_b]; exact fin⟩
    · exact op_neD hu pins s σ H _ _ v u Q I rx ry ⟨d, e, toDS_dp rs p d x h1 rp, toDS_dp rs q e y h2 rq, h3, h4, fin⟩
/-! ### in -/
def valP (kvs : List (Key × PV)) (k : Key) : Option PV := (kvs.find? fun kv => decide (kv.1 = k)).map (·.2)
def putP (kvs : List (Key × PV)) (k : Key) (v : PV) : List (Key × PV) :=
  if (kvs.any fun kv => decide (kv.1 = k)) = true then kvs.map (fun kv => if kv.1 = k then (kv.1, v) else kv) else kvs ++ [(k, v)]
theorem RpF.val {K : PySem.W.Frag} {ι : List Addr} {H : Hp} {k : Key} : ∀ {kvs : List (Key × PV)} {ws : List (Key × V)}, RpF K ι H kvs ws → (∀ x, valP kvs k = some x → ∃ v, valV ws k = some v ∧ Rp K ι H x v) ∧ (valP kvs k = none → valV ws k = none)
  | [], _, h => by cases (show _ = _ from h); exact ⟨fun x e => (by cases e), fun _ => rfl⟩
  | (k0, x) :: r, _, h => by
    obtain ⟨v, w, rfl, h1, h2⟩ := h
    obtain ⟨i1, i2⟩ := RpF.val (k := k) h2
    unfold valP valV at *
    by_cases e : k0 = k
    · simp only [List.find?_cons, e, decide_true]
      exact ⟨fun y q => (by cases q; exact ⟨v, rfl, h1⟩), fun q => (by cases q)⟩
    · simp only [List.find?_cons, e, decide_false]
      exact ⟨i1, i2⟩
theorem RpF.any {K : PySem.W.Frag} {ι : List Addr} {H : Hp} {k : Key} : ∀ {kvs : List (Key × PV)} {ws : List (Key × V)}, RpF K ι H kvs ws → (kvs.any fun kv => decide (kv.1 = k)) = (ws.any fun kv => decide (kv.1 = k))
  | [], _, h => by cases (show _ = _ from h); rfl
  | (k0, x) :: r, _, h => by
    obtain ⟨v, w, rfl, h1, h2⟩ := h
    rw [List.any_cons, List.any_cons, RpF.any h2]
theorem RpF.app {K : PySem.W.Frag} {ι : List Addr} {H : Hp} {κ : Type} : ∀ {kvs kvs' : List (κ × PV)} {ws ws' : List (κ × V)}, RpF K ι H kvs ws → RpF K ι H kvs' ws' → RpF K ι H (kvs ++ kvs') (ws ++ ws')
  | [], _, _, _, h, h' => by cases (show _ = _ from h); exact h'
  | (k0, x) :: r, _, _, _, h, h' => by
    obtain ⟨v, w, rfl, h1, h2⟩ := h
    exact ⟨v, _, rfl, h1, RpF.app h2 h'⟩
theorem RpF.mapPut {K : PySem.W.Frag} {ι : List Addr} {H : Hp} {k : Key} {y : PV} {z : V} (hy : Rp K ι H y z) : ∀ {kvs : List (Key × PV)} {ws : List (Key × V)}, RpF K ι H kvs ws →
    RpF K ι H (kvs.map (fun kv => if kv.1 = k then (kv.1, y) else kv)) (ws.map (fun kv => if kv.1 = k then (kv.1, z) else kv))
  | [], _, h => by cases (show _ = _ from h); rfl
  | (k0, x) :: r, _, h => by
    obtain ⟨v, w, rfl, h1, h2⟩ := h
    rw [List.map_cons, List.map_cons]
    by_cases e : k0 = k
    · simp only [e, if_true]; exact ⟨z, _, rfl, hy, RpF.mapPut hy h2⟩
    · simp only [e, if_false]; exact ⟨v, _, rfl, h1, RpF.mapPut hy h2⟩
theorem RpF.put {K : PySem.W.Frag} {ι : List Addr} {H : Hp} {k : Key} {y : PV} {z : V} {kvs : List (Key × PV)} {ws : List (Key × V)} (h : RpF K ι H kvs ws) (hy : Rp K ι H y z) : RpF K ι H (putP kvs k y) (putK ws k z) := by
  unfold putP putK
  rw [h.any]
  split
  · exact h.mapPut hy
  · exact h.app ⟨z, [], rfl, hy, rfl⟩
def flatP : PV → Bool
  | .non => true
  | .bl _ => true
  | .int _ => true
  | .str _ => true
  | _ => false
def flatW : PV → V
  | .non => .non
  | .bl b => .bl b
  | .int i => .int i
  | .str x => .str x
  | _ => .non
theorem rp_flat {K : PySem.W.Frag} {ι : List Addr} {H : Hp} {p : PV} {x : V} (h : Rp K ι H p x) (f : flatP p = true) : x = flatW p ∧ flatV x = true := by
  cases p with
  | non => cases (show x = _ from h); exact ⟨rfl, rfl⟩
  | bl b => cases (show x = _ from h); exact ⟨rfl, rfl⟩
  | int b => cases (show x = _ from h); exact ⟨rfl, rfl⟩
  | str b => cases (show x = _ from h); exact ⟨rfl, rfl⟩
  | _ => cases f
theorem rpl_flat {K : PySem.W.Frag} {ι : List Addr} {H : Hp} : ∀ {xs : List PV} {vs : List V}, RpL K ι H xs vs → xs.all flatP = true → vs = xs.map flatW ∧ vs.all flatV = true
  | [], _, h, _ => by cases (show _ = _ from h); exact ⟨rfl, rfl⟩
  | x :: xs, _, h, f => by
    obtain ⟨v, r, rfl, h1, h2⟩ := h
    rw [List.all_cons, Bool.and_eq_true] at f
    obtain ⟨e1, e2⟩ := rp_flat h1 f.1
    obtain ⟨e3, e4⟩ := rpl_flat h2 f.2
    exact ⟨by rw [List.map_cons, ← e1, ← e3], by rw [List.all_cons, e2, e4]; rfl⟩
/-- in, of items -/
def inItems (p : PV) (xs : List PV) : Option Bool :=
  if flatP p = true ∧ xs.all flatP = true then some (inV (flatW p) (xs.map flatW)) else none
def inDeep (p : PV) (xs : List PV) : Option Bool := match toD p, toDL xs with
  | some d, some ds => if SeqAt.shaped d = true ∧ SeqAt.shaped (.list ds) = true then some (ds.any fun z => PyData.eqv z d) else none
  | _, _ => none
def inB (p q : PV) (S : Sto) : Option Bool := match q with
  | .str z => match p with
    | .str ⟨⟨[c]⟩⟩ => some (decide (c ∈ z.cps.toList))
    | .str x => some (!(Builtin.Str.occurrences z x 0 z.length 1).isEmpty)
    | _ => none
  | .tup xs => inItems p xs
  | .fls xs => inItems p xs
  | .loc l => match S[l]? with
    | some (.lst xs) => match inItems p xs with
      | some b => some b
      | none => inDeep p xs
    | some (.dct kvs) => match keyP p with
      | some k => some (valP kvs k).isSome
      | none => none
    | _ => none
  | _ => none
def inP : Op2 := fun p q S => (inB p q S).map fun b => (.bl b, S)
def notInP : Op2 := fun p q S => (inB p q S).map fun b => (.bl (!b), S)
theorem key_rp {K : PySem.W.Frag} {ι : List Addr} {H : Hp} {p : PV} {x : V} {k : Key} (h : Rp K ι H p x) (e : keyP p = some k) : x = kV k := by
  cases p with
  | int i => cases (show x = _ from h); cases e; rfl
  | str i => cases (show x = _ from h); cases e; rfl
  | _ => cases e
theorem og_inB (hu : X.A.units + 65 < cLine) {p q : PV} {S : Sto} {b : Bool} {ι : List Addr} {H : Hp} {x y : V} (rs : RSt X.K X.mg ι H S) (rp : Rp X.K ι H p x) (rq : Rp X.K ι H q y) (h : inB p q S = some b) (neg : Bool)
    (pins : List (Addr × Obj)) (s : Shared) (σ : L2.St) (v u : Value) (Q : VK) (I : Inv X pins σ H s) (rx : RelV x v) (ry : RelV y u) (fin : Q (.bl (if neg then !b else b)) H) :
    wpAny (model X.prog X.w) X.A (compareOp (if neg then .NotIn else .In) v u) (EP X pins σ Q) X.xe s := by
  have items : ∀ (xs : List PV) (vs : List V) (a : Addr), y = .ref a → (SqL X.K H a vs ∨ SqT X.K H a vs) → RpL X.K ι H xs vs → inItems p xs = some b →
      wpAny (model X.prog X.w) X.A (compareOp (if neg then .NotIn else .In) v u) (EP X pins σ Q) X.xe s := by
    intro xs vs a ey hq hr hi
    subst ey
    unfold inItems at hi
    split at hi
    · rename_i c
      cases hi
      obtain ⟨e1, e2⟩ := rp_flat rp c.1
      obtain ⟨e3, e4⟩ := rpl_flat hr c.2
      subst e1; subst e3
      cases neg
      · exact op_in_seq pins s σ H _ _ v u Q I rx ry ⟨a, _, rfl, hq, e2, e4, fin⟩
      · exact op_notIn_seq pins s σ H _ _ v u Q I rx ry ⟨a, _, rfl, hq, e2, e4, fin⟩
    · cases hi
  unfold inB at h
  split at h
  · cases (show y = _ from rq)
    split at h
    · cases h
      cases (show x = _ from rp)
      cases neg
      · exact op_in_sign pins s σ H _ _ v u Q I rx ry ⟨_, _, rfl, rfl, fin⟩
      · exact op_notIn_sign pins s σ H _ _ v u Q I rx ry ⟨_, _, rfl, rfl, fin⟩
    · cases h
      cases (show x = _ from rp)
      cases neg
      · exact op_in_str pins s σ H _ _ v u Q I rx ry ⟨_, _, rfl, rfl, fin⟩
      · exact op_notin_str pins s σ H _ _ v u Q I rx ry ⟨_, _, rfl, rfl, fin⟩
    · cases h
  · obtain ⟨a, vs, ey, h1, h2⟩ := rq
    exact items _ vs a ey (.inr h1.seq) h2 h
  · obtain ⟨a, vs, ey, h1, h2⟩ := rq
    exact items _ vs a ey (.inl h1.seq) h2 h
  · obtain ⟨a, ey, h1⟩ := rq
    split at h
    · rename_i xs eS
      obtain ⟨vs, h3, h4⟩ := rs.obj _ a _ h1 eS
      split at h
      · rename_i b' hb'
        cases h
        exact items _ vs a ey (.inl (.of h3)) h4 hb'
      · unfold inDeep at h
        split at h
        · rename_i d ds e1 e2
          split at h
          · rename_i c
            cases h
            subst ey
            have dx := toD_dp p d x e1 rp
            have dy : Dp X.K H (.ref a) (.list ds) := .lst (.of h3) (toDL_dp xs ds vs e2 h4)
            cases neg
            · exact op_inD hu pins s σ H _ _ v u Q I rx ry ⟨d, ds, dx, dy, c.1, c.2, fin⟩
            · exact op_notInD hu pins s σ H _ _ v u Q I rx ry ⟨d, ds, dx, dy, c.1, c.2, fin⟩
          · cases h
        · cases h
    · rename_i kvs eS
      obtain ⟨ws, h3, h4⟩ := rs.obj _ a _ h1 eS
      split at h
      · rename_i k hk
        cases h
        subst ey
        cases key_rp rp hk
        obtain rfl : u = Value.ref a := ry
        have e : (valP kvs k).isSome = (valV ws k).isSome := by
          obtain ⟨i1, i2⟩ := RpF.val (k := k) h4
          cases q : valP kvs k with
          | none => rw [i2 q]; rfl
          | some x => obtain ⟨v, e, _⟩ := i1 x q; rw [e]; rfl
        rw [e] at fin
        cases neg
        · exact d_in (by omega) I (DGet.k h3) rx fun s' I' => ⟨.bl _, H, I', rfl, fin⟩
        · exact d_notIn (by omega) I (DGet.k h3) rx fun s' I' => ⟨.bl _, H, I', rfl, fin⟩
      · cases h
    · cases h
  · cases h
theorem og_in (hu : X.A.units + 65 < cLine) : OpR X (compareOp .In) (gOp X inP) := by
  intro pins s σ H x y v u Q I rx ry ⟨ι, S, p, q, z, S', rs, rp, rq, hf, k⟩
  unfold inP at hf
  cases hb : inB p q S with
  | none => rw [hb] at hf; cases hf
  | some b =>
    rw [hb] at hf
    cases hf
    exact og_inB hu rs rp rq hb false pins s σ v u Q I rx ry (k ι H (.bl b) .refl rs rfl)
theorem og_notIn (hu : X.A.units + 65 < cLine) : OpR X (compareOp .NotIn) (gOp X notInP) := by
  intro pins s σ H x y v u Q I rx ry ⟨ι, S, p, q, z, S', rs, rp, rq, hf, k⟩
  unfold notInP at hf
  cases hb : inB p q S with
  | none => rw [hb] at hf; cases hf
  | some b =>
    rw [hb] at hf
    cases hf
    exact og_inB hu rs rp rq hb true pins s σ v u Q I rx ry (k ι H (.bl (!b)) .refl rs rfl)
/-! ### subscripts -/
theorem og_ix : IxR X (gOp X getP) := by
  intro value slice pins s σ H x y v u Q I rx ry ⟨ι, S, p, q, z, S', rs, rp, rq, hf, k⟩ hs
  unfold getP at hf
  split at hf
  · rename_i xs i
    cases ha : atI xs i with
    | none => rw [ha] at hf; cases hf
    | some w =>
      rw [ha] at hf
      cases hf
      obtain ⟨a, vs, rfl, h1, h2⟩ := rp
      cases (show y = _ from rq)
      obtain ⟨w', h3, h4⟩ := h2.at ha
      exact ix_tup value slice pins s σ H _ _ v u Q I rx ry ⟨a, vs, i, w', rfl, rfl, h1.seq, h3, k ι H _ .refl rs h4⟩ hs
  · rename_i xs i
    cases ha : atI xs i with
    | none => rw [ha] at hf; cases hf
    | some w =>
      rw [ha] at hf
      cases hf
      obtain ⟨a, vs, rfl, h1, h2⟩ := rp
      cases (show y = _ from rq)
      obtain ⟨w', h3, h4⟩ := h2.at ha
      exact ix_list value slice pins s σ H _ _ v u Q I rx ry ⟨a, vs, i, w', rfl, rfl, h1.seq, h3, k ι H _ .refl rs h4⟩ hs
  · rename_i xs i
    split at hf
    · rename_i hl
      cases ha : atI xs.cps.toList i with
      | none => rw [ha] at hf; cases hf
      | some w =>
        rw [ha] at hf
        cases hf
        cases (show x = _ from rp)
        cases (show y = _ from rq)
        exact ix_str value slice pins s σ H _ _ v u Q I rx ry ⟨xs, i, w, rfl, rfl, by rw [sizeLine_eq]; exact hl, ha, k ι H _ .refl rs rfl⟩ hs
    · cases hf
  · split at hf
    · rename_i xs i eS
      cases ha : atI xs i with
      | none => rw [ha] at hf; cases hf
      | some w =>
        rw [ha] at hf
        cases hf
        obtain ⟨a, rfl, h1⟩ := rp
        cases (show y = _ from rq)
        obtain ⟨vs, h2, h3⟩ := rs.obj _ a _ h1 eS
        obtain ⟨w', h4, h5⟩ := h3.at ha
        exact ix_list value slice pins s σ H _ _ v u Q I rx ry ⟨a, vs, i, w', rfl, rfl, .of h2, h4, k ι H _ .refl rs h5⟩ hs
    · cases hf
  · cases hf
theorem re_ix {W : WX} {a b : Expr} {ma mb : EM PV} {pos : Pos} (ha : RE X W a ma) (hb : RE X W b mb) (hs : PlainIx b := by exact fun _ _ => rfl) : RE X W (.Subscript a b pos) (binM getP ma mb) :=
  ⟨pe_weak (pe_ix og_ix ha.pe hb.pe hs) bin_read⟩
/-- d[k] of a dict -/
def dgetP : Op2 := fun p q S => match p with
  | .loc l => match S[l]?, keyP q with
    | some (.dct kvs), some k => (valP kvs k).map fun v => (v, S)
    | _, _ => none
  | _ => none
theorem re_dget {W : WX} {a b : Expr} {ma mb : EM PV} {pos : Pos} (hu : X.A.units + 1 < cLine) (ha : RE X W a ma) (hb : RE X W b mb) (hs : NoSl b := by exact fun _ _ => rfl) : RE X W (.Subscript a b pos) (binM dgetP ma mb) := by
  refine ⟨pe_weak (pe_dget hu ha.pe hb.pe hs) fun σ H Q h => gE_mono (bin_read σ H Q h) fun x H1 h1 => gE_mono h1 fun y H2 h2 => ?_⟩
  obtain ⟨ι, S, p, q, z, S', rs, rp, rq, hf, k⟩ := h2
  unfold dgetP at hf
  split at hf
  · split at hf
    · rename_i kvs kk eS ek
      cases hv : valP kvs kk with
      | none => rw [hv] at hf; cases hf
      | some w =>
        rw [hv] at hf
        cases hf
        obtain ⟨a, rfl, hι⟩ := rp
        obtain ⟨ws, h3, h4⟩ := rs.obj _ a _ hι eS
        cases key_rp rq ek
        obtain ⟨v, e1, e2⟩ := (RpF.val (k := kk) h4).1 _ hv
        exact ⟨a, v, rfl, by rw [← e1]; exact DGet.k h3, k ι H2 v .refl rs e2⟩
    · cases hf
  · cases hf
end
end PL
/-! PLE: slices, built-in calls, methods of built-in types, calls of defs. -/
namespace PL
open PySem PySem.Spec PyProof.Rows L2
section
variable {X : Cx} {W : WX} {a b c e o : Expr} {es rest : List Expr} {ma mb mc mo : EM PV} {tA tB' : EM Bool} {mas : EM (List PV)} {pos apos cpos p2 : Pos}
/-! ### slices -/
abbrev rO : RR (Option Int) (Option Int) := fun _ _ v x => v = x
structure RO (X : Cx) (W : WX) (e : Option Expr) (m : EM (Option Int)) : Prop where
  po : L2.PO X e (gE X W rO m)
theorem po_weak {X : Cx} {e : Option Expr} {t t' : TO} (h : L2.PO X e t) (w : ∀ σ H Q, t' σ H Q → t σ H Q) : L2.PO X e t' := ⟨fun pins s σ H Q I hh => h.run pins s σ H Q I (w σ H Q hh)⟩
def oN : EM (Option Int) := fun _ S => .ok none S
def oS (m : EM PV) : EM (Option Int) := fun τ S => bnd (m τ S) fun p S1 => match p with | .int i => .ok (some i) S1 | _ => .bad
theorem ro_none : RO X W none oN := ⟨po_weak po_none fun σ H Q h => by
  obtain ⟨ι, τ, S, r, ρ, pk⟩ := h
  exact pk _ _ _ .refl r rfl⟩
theorem ro_some (h : RE X W e ma) : RO X W (some e) (oS ma) := ⟨po_weak (po_some h.pe) fun σ H Q h => by
  obtain ⟨ι, τ, S, r, ρ, pk⟩ := h
  refine ⟨ι, τ, S, r, ρ, pk.next.mono ?_⟩
  rintro x H1 ⟨p, ι1, S1, e1, r1, q1, pk1⟩
  cases p with
  | int i => exact ⟨i, q1, pk1 _ _ _ .refl r1 rfl⟩
  | _ => exact pk1.elim⟩
def cutP (xs : List PV) (lo hi : Option Int) : List PV := (xs.drop (HT.sIx xs.length 0 lo)).take (HT.sIx xs.length xs.length hi - HT.sIx xs.length 0 lo)
theorem RpL.cut {K : PySem.W.Frag} {ι : List Addr} {H : Hp} {xs : List PV} {vs : List V} (h : RpL K ι H xs vs) (lo hi : Option Int) : RpL K ι H (cutP xs lo hi) (cutV vs lo hi) := by
  unfold cutP cutV
  rw [h.length]
  exact (h.drop _).take _
def slP (p : PV) (lo hi : Option Int) (S : Sto) : Option (PV × Sto) := match p with
  | .tup xs => some (.tup (cutP xs lo hi), S)
  | .fls xs => some (.loc S.length, S ++ [.lst (cutP xs lo hi)])
  | .str x => if x.length ≤ 16777216 then some (.str (cutS x lo hi), S) else none
  | .loc l => match S[l]? with | some (.lst xs) => some (.loc S.length, S ++ [.lst (cutP xs lo hi)]) | _ => none
  | _ => none
def slM (m : EM PV) (lo hi : EM (Option Int)) : EM PV := fun τ S => bnd (m τ S) fun p S1 => bnd (lo τ S1) fun l S2 => bnd (hi τ S2) fun h S3 => lift (slP p l h S3)
theorem cut_whole {α : Type} (xs : List α) (i j : Nat) (h1 : i = 0) (h2 : j = xs.length) : (xs.drop i).take (j - i) = xs := by subst h1; subst h2; simp
theorem re_slice {lo hi : Option Expr} {ml mh : EM (Option Int)} (he : RE X W e ma) (hl : RO X W lo ml) (hu : RO X W hi mh) : RE X W (.Subscript e (.Slice lo hi none p2) pos) (slM ma ml mh) := by
  refine ⟨pe_weak (pe_slice ((sl_list.or PLz.sl_tupZ).or sl_str) he.pe hl.po hu.po) fun σ H Q h => ?_⟩
  obtain ⟨ι, τ, S, r, ρ, pk⟩ := h
  refine ⟨ι, τ, S, r, ρ, pk.next.mono ?_⟩
  rintro x H1 ⟨p, ι1, S1, e1, r1, q1, pk1⟩
  refine ⟨ι1, τ, S1, r1, ρ.up e1, pk1.next.mono ?_⟩
  rintro l H2 ⟨l', ι2, S2, e2, r2, q2, pk2⟩
  refine ⟨ι2, τ, S2, r2, (ρ.up e1).up e2, pk2.next.mono ?_⟩
  rintro u H3 ⟨u', ι3, S3, e3, r3, q3, pk3⟩
  have ql : l' = l := q2
  subst ql
  have qu : u' = u := q3
  subst qu
  have q1 := (q1.up e2).up e3
  obtain ⟨v, S', hf, k⟩ := pk_lift pk3
  unfold slP at hf
  split at hf
  · cases hf
    obtain ⟨a, vs, rfl, h1, h2⟩ := q1
    refine .inl (.inr ⟨a, vs, rfl, h1.seq, fun hw => ?_, fun hw p hp o ho => ?_⟩)
    · refine k _ _ _ .refl r3 ⟨a, vs, rfl, h1, ?_⟩
      have e := h2.cut l' u'
      have e2 : cutV vs l' u' = vs := cut_whole vs _ _ hw.1 hw.2
      rw [e2] at e
      exact e
    · obtain ⟨E, r4⟩ := r3.tup (ho := .frz o (.tup (cutV vs l' u'))) hp
      exact k _ _ _ E r4 ⟨p, _, rfl, .inl ⟨o, upd_same, ho⟩, (h2.cut l' u').up E⟩
  · cases hf
    obtain ⟨a, vs, rfl, h1, h2⟩ := q1
    refine .inl (.inl ⟨a, vs, rfl, h1.seq, fun p hp => ?_⟩)
    obtain ⟨E, r4, q4⟩ := r3.new_lst hp (h2.cut l' u')
    exact k _ _ _ E r4 q4
  · split at hf
    · rename_i hl
      cases hf
      exact .inr ⟨_, q1, by rw [sizeLine_eq]; exact hl, k _ _ _ .refl r3 rfl⟩
    · cases hf
  · split at hf
    · rename_i xs eS
      cases hf
      obtain ⟨a, rfl, h1⟩ := q1
      obtain ⟨vs, h2, h3⟩ := r3.obj _ a _ h1 eS
      refine .inl (.inl ⟨a, vs, rfl, .of h2, fun p hp => ?_⟩)
      obtain ⟨E, r4, q4⟩ := r3.new_lst hp (h3.cut l' u')
      exact k _ _ _ E r4 q4
    · cases hf
  · cases hf
/-- xs[::-1] of a list -/
def revP (p : PV) (S : Sto) : Option (PV × Sto) := match p with
  | .fls xs => some (.loc S.length, S ++ [.lst xs.reverse])
  | .loc l => match S[l]? with | some (.lst xs) => some (.loc S.length, S ++ [.lst xs.reverse]) | _ => none
  | _ => none
def unM (f : PV → Sto → Option (PV × Sto)) (m : EM PV) : EM PV := fun τ S => bnd (m τ S) fun p S1 => lift (f p S1)
theorem re_revL {k : Nat} {p1 p3 p4 : Pos} (he : RE X W e ma) : RE X W (.Subscript e (.Slice none none (some (.UnaryOp .USub (.Constant (.int 1) k p1) p2)) p3) pos) (unM revP ma) := by
  refine ⟨pe_weak (pe_revL he.pe) fun σ H Q h => ?_⟩
  obtain ⟨ι, τ, S, r, ρ, pk⟩ := h
  refine ⟨ι, τ, S, r, ρ, pk.next.mono ?_⟩
  rintro x H1 ⟨p, ι1, S1, e1, r1, q1, pk1⟩
  obtain ⟨v, S', hf, k⟩ := pk_lift pk1
  unfold revP at hf
  split at hf
  · cases hf
    obtain ⟨a, vs, rfl, h1, h2⟩ := q1
    refine ⟨a, vs, rfl, h1.seq, fun p hp => ?_⟩
    obtain ⟨E, r4, q4⟩ := r1.new_lst hp h2.rev
    exact k _ _ _ E r4 q4
  · split at hf
    · rename_i xs eS
      cases hf
      obtain ⟨a, rfl, h1⟩ := q1
      obtain ⟨vs, h2, h3⟩ := r1.obj _ a _ h1 eS
      refine ⟨a, vs, rfl, .of h2, fun p hp => ?_⟩
      obtain ⟨E, r4, q4⟩ := r1.new_lst hp h3.rev
      exact k _ _ _ E r4 q4
    · cases hf
  · cases hf
/-- -a -/
def negP (p : PV) (S : Sto) : Option (PV × Sto) := match p with | .int i => some (.int (-i), S) | _ => none
theorem re_neg (he : RE X W e ma) : RE X W (.UnaryOp .USub e pos) (unM negP ma) := by
  refine ⟨pe_weak (pe_un un_neg he.pe) fun σ H Q h => ?_⟩
  obtain ⟨ι, τ, S, r, ρ, pk⟩ := h
  refine ⟨ι, τ, S, r, ρ, pk.next.mono ?_⟩
  rintro x H1 ⟨p, ι1, S1, e1, r1, q1, pk1⟩
  cases p with
  | int i => exact ⟨i, q1, pk1 _ _ _ .refl r1 rfl⟩
  | _ => exact pk1.elim

/-! ### calls of built-ins by name -/
abbrev OpN := List PV → Sto → Option (PV × Sto)
def gCall (X : Cx) (f : OpN) : List V → Hp → VK → Prop := fun xs H Q => ∃ ι S ps v S', RSt X.K X.mg ι H S ∧ RpL X.K ι H ps xs ∧ f ps S = some (v, S') ∧
  ∀ ι' H' z, Ext ι H ι' H' → RSt X.K X.mg ι' H' S' → Rp X.K ι' H' v z → Q z H'
def callM (f : OpN) (ms : EM (List PV)) : EM PV := fun τ S => bnd (ms τ S) fun ps S1 => lift (f ps S1)
theorem call_read {f : OpN} (σ : L2.St) (H : Hp) (Q : VK) (h : gE X W (rV X) (callM f mas) σ H Q) : tCB (gCall X f) (gE X W (rL X) mas) σ H Q := by
  obtain ⟨ι, τ, S, r, ρ, pk⟩ := h
  refine ⟨ι, τ, S, r, ρ, pk.next.mono ?_⟩
  rintro xs H1 ⟨ps, ι1, S1, e1, r1, q1, pk1⟩
  obtain ⟨v, S', hf, k⟩ := pk_lift pk1
  exact ⟨ι1, S1, ps, v, S', r1, q1, hf, k⟩
theorem re_callB {x : Str} {p : Pos} {id : String} {f : OpN} (hc : CallR X (.builtin id) (gCall X f)) (hg : Gl X x) (hm : X.mg x = none) (hv : bootBuiltins x = some (.builtin id)) (ha : RA X W (e :: es) mas) (hn : x ≠ "__name__" := by decide) (hdb : (x == ("__debug__" : Str)) = false := by decide)
    (he : starEach (e :: es) X.env = (false, eval e X.env) :: starEach es X.env := by rfl) (hpl : (backTo pos (starEach es X.env)).any (·.1) = false := by rfl) : RE X W (.Call (.Name x p) (e :: es) [] pos) (callM f mas) :=
  ⟨pe_weak (pe_callB hc hg hm hv ha.pa hn hdb he hpl) call_read⟩
theorem re_callTy {x : Str} {p : Pos} {T : String} {f : OpN} (hc : CallR X (.type T) (gCall X f)) (hg : Gl X x) (hm : X.mg x = none) (hv : bootBuiltins x = some (.type T)) (ha : RA X W (e :: es) mas) (hn : x ≠ "__name__" := by decide) (hdb : (x == ("__debug__" : Str)) = false := by decide)
    (he : starEach (e :: es) X.env = (false, eval e X.env) :: starEach es X.env := by rfl) (hpl : (backTo pos (starEach es X.env)).any (·.1) = false := by rfl) : RE X W (.Call (.Name x p) (e :: es) [] pos) (callM f mas) :=
  ⟨pe_weak (pe_callTy hc hg hm hv ha.pa hn hdb he hpl) call_read⟩
/-- one argument by cases -/
def on1 (f : PV → Sto → Option (PV × Sto)) : OpN := fun ps S => match ps with | [p] => f p S | _ => none
def on2 (f : PV → PV → Sto → Option (PV × Sto)) : OpN := fun ps S => match ps with | [p, q] => f p q S | _ => none
theorem rpl1 {K : PySem.W.Frag} {ι : List Addr} {H : Hp} {p : PV} {xs : List V} (h : RpL K ι H [p] xs) : ∃ x, xs = [x] ∧ Rp K ι H p x := by
  obtain ⟨v, r, rfl, h1, h2⟩ := h
  cases (show r = _ from h2)
  exact ⟨v, rfl, h1⟩
theorem rpl2 {K : PySem.W.Frag} {ι : List Addr} {H : Hp} {p q : PV} {xs : List V} (h : RpL K ι H [p, q] xs) : ∃ x y, xs = [x, y] ∧ Rp K ι H p x ∧ Rp K ι H q y := by
  obtain ⟨v, r, rfl, h1, h2⟩ := h
  obtain ⟨y, rfl, h3⟩ := rpl1 h2
  exact ⟨v, y, rfl, h1, h3⟩
theorem cr_on1 {g : Value} {f : PV → Sto → Option (PV × Sto)} (h : ∀ (pins : List (Addr × Obj)) (s : Shared) (σ : L2.St) (H : Hp) (us : List Value) (Q : VK) (ι : List Addr) (S : Sto) (p : PV) (x : V) (v : PV) (S' : Sto), Inv X pins σ H s → Vals [x] us → RSt X.K X.mg ι H S → Rp X.K ι H p x → f p S = some (v, S') →
      (∀ ι' H' z, Ext ι H ι' H' → RSt X.K X.mg ι' H' S' → Rp X.K ι' H' v z → Q z H') → wpAny (model X.prog X.w) X.A (call g us) (EP X pins σ Q) X.xe s) : CallR X g (gCall X (on1 f)) := by
  intro pins s σ H xs us Q I r ⟨ι, S, ps, v, S', rs, rp, hf, k⟩
  unfold on1 at hf
  split at hf
  · obtain ⟨x, rfl, h1⟩ := rpl1 rp
    exact h pins s σ H us Q ι S _ x v S' I r rs h1 hf k
  · cases hf
def lenP (p : PV) (S : Sto) : Option (PV × Sto) := match p with
  | .tup xs => some (.int xs.length, S)
  | .fls xs => some (.int xs.length, S)
  | .str x => if x.length ≤ 16777216 then some (.int x.length, S) else none
  | .loc l => match S[l]? with
    | some (.lst xs) => some (.int xs.length, S)
    | some (.dct kvs) => some (.int kvs.length, S)
    | _ => none
  | _ => none
theorem cr_len : CallR X (.builtin "len") (gCall X (on1 lenP)) := cr_on1 fun pins s σ H us Q ι S p x v S' I r rs rp hf k => by
  unfold lenP at hf
  split at hf
  · cases hf
    obtain ⟨a, vs, rfl, h1, h2⟩ := rp
    exact call_len pins s σ H _ us Q I r ⟨_, _, rfl, .inr ⟨vs, h1.seq, rfl⟩, k _ _ _ .refl rs (by rw [h2.length]; rfl)⟩
  · cases hf
    obtain ⟨a, vs, rfl, h1, h2⟩ := rp
    exact call_len pins s σ H _ us Q I r ⟨_, _, rfl, .inl ⟨vs, h1.seq, rfl⟩, k _ _ _ .refl rs (by rw [h2.length]; rfl)⟩
  · split at hf
    · rename_i hl
      cases hf
      cases (show x = _ from rp)
      exact call_len pins s σ H _ us Q I r ⟨_, _, rfl, ⟨by rw [sizeLine_eq]; exact hl, rfl⟩, k _ _ _ .refl rs rfl⟩
    · cases hf
  · split at hf
    · rename_i xs eS
      cases hf
      obtain ⟨a, rfl, h1⟩ := rp
      obtain ⟨vs, h2, h3⟩ := rs.obj _ a _ h1 eS
      exact call_len pins s σ H _ us Q I r ⟨_, _, rfl, .inl ⟨vs, .of h2, rfl⟩, k _ _ _ .refl rs (by rw [h3.length]; rfl)⟩
    · rename_i xs eS
      cases hf
      obtain ⟨a, rfl, h1⟩ := rp
      obtain ⟨vs, h2, h3⟩ := rs.obj _ a _ h1 eS
      exact call_lenD pins s σ H _ us Q I r ⟨a, vs, rfl, h2, k _ _ _ .refl rs (by rw [h3.length]; rfl)⟩
    · cases hf
  · cases hf
def listP (p : PV) (S : Sto) : Option (PV × Sto) := (itemsP p S).map fun xs => (.loc S.length, S ++ [.lst xs])
def tupleP (p : PV) (S : Sto) : Option (PV × Sto) := (itemsP p S).map fun xs => (.tup xs, S)
theorem items_rp {ι : List Addr} {H : Hp} {S : Sto} {p : PV} {x : V} {xs : List PV} (rs : RSt X.K X.mg ι H S) (rp : Rp X.K ι H p x) (h : itemsP p S = some xs) :
    ∃ a vs, x = .ref a ∧ RpL X.K ι H xs vs ∧ (SqL X.K H a vs ∨ (p = .tup xs ∧ SqT X.K H a vs)) := by
  unfold itemsP at h
  split at h
  · cases h
    obtain ⟨a, vs, rfl, h1, h2⟩ := rp
    exact ⟨a, vs, rfl, h2, .inr ⟨rfl, h1.seq⟩⟩
  · cases h
    obtain ⟨a, vs, rfl, h1, h2⟩ := rp
    exact ⟨a, vs, rfl, h2, .inl h1.seq⟩
  · split at h
    · rename_i eS
      cases h
      obtain ⟨a, rfl, h1⟩ := rp
      obtain ⟨vs, h2, h3⟩ := rs.obj _ a _ h1 eS
      exact ⟨a, vs, rfl, h3, .inl (.of h2)⟩
    · cases h
  · cases h
theorem cr_list : CallR X (.type "list") (gCall X (on1 listP)) := cr_on1 fun pins s σ H us Q ι S p x v S' I r rs rp hf k => by
  unfold listP at hf
  cases hi : itemsP p S with
  | none => rw [hi] at hf; cases hf
  | some xs =>
    rw [hi] at hf
    cases hf
    obtain ⟨a, vs, rfl, h1, h2⟩ := items_rp rs rp hi
    refine call_list_of pins s σ H _ us Q I r ⟨a, vs, rfl, h2.imp id (·.2), fun l hl => ?_⟩
    obtain ⟨E, r4, q4⟩ := rs.new_lst hl h1
    exact k _ _ _ E r4 q4
theorem cr_tuple : CallR X (.type "tuple") (gCall X (on1 tupleP)) := cr_on1 fun pins s σ H us Q ι S p x v S' I r rs rp hf k => by
  unfold tupleP at hf
  cases hi : itemsP p S with
  | none => rw [hi] at hf; cases hf
  | some xs =>
    rw [hi] at hf
    cases hf
    obtain ⟨a, vs, rfl, h1, h2⟩ := items_rp rs rp hi
    refine PLz.call_tupleZ pins s σ H _ us Q I r ⟨a, vs, rfl, ?_⟩
    rcases h2 with h2 | ⟨rfl, h2⟩
    · refine .inl ⟨h2, fun l hl o ho => ?_⟩
      obtain ⟨E, r4⟩ := rs.tup (ho := .frz o (.tup vs)) hl
      exact k _ _ _ E r4 ⟨l, vs, rfl, .inl ⟨o, upd_same, ho⟩, h1.up E⟩
    · exact .inr ⟨h2, k _ _ _ .refl rs rp⟩
/-- a list of truths -/
def boolsP : List PV → Option (List Bool)
  | [] => some []
  | .bl b :: r => (boolsP r).map fun bs => b :: bs
  | _ => none
theorem bools_rp {K : PySem.W.Frag} {ι : List Addr} {H : Hp} : ∀ {xs : List PV} {bs : List Bool} {vs : List V}, RpL K ι H xs vs → boolsP xs = some bs → vs = bs.map V.bl
  | [], bs, _, h, e => by cases e; exact h
  | x :: xs, bs, _, h, e => by
    obtain ⟨v, r, rfl, h1, h2⟩ := h
    cases x with
    | bl b =>
      unfold boolsP at e
      cases q : boolsP xs with
      | none => rw [q] at e; cases e
      | some bs' =>
        rw [q] at e
        cases e
        cases (show v = _ from h1)
        rw [bools_rp h2 q]; rfl
    | _ => cases e
def allP (p : PV) (S : Sto) : Option (PV × Sto) := match p with
  | .loc l => match S[l]? with | some (.lst xs) => (boolsP xs).map fun bs => (.bl (bs.all id), S) | _ => none
  | _ => none
def anyP (p : PV) (S : Sto) : Option (PV × Sto) := match p with
  | .loc l => match S[l]? with | some (.lst xs) => (boolsP xs).map fun bs => (.bl (bs.any id), S) | _ => none
  | _ => none
theorem cr_allP (hc : X.calm = true) : CallR X (.builtin "all") (gCall X (on1 allP)) := cr_on1 fun pins s σ H us Q ι S p x v S' I r rs rp hf k => by
  unfold allP at hf
  split at hf
  · split at hf
    · rename_i xs eS
      cases hb : boolsP xs with
      | none => rw [hb] at hf; cases hf
      | some bs =>
        rw [hb] at hf
        cases hf
        obtain ⟨a, rfl, h1⟩ := rp
        obtain ⟨vs, h2, h3⟩ := rs.obj _ a _ h1 eS
        have e := bools_rp h3 hb
        subst e
        exact cr_all hc pins s σ H _ us Q I r ⟨a, bs, rfl, .of h2, k _ _ _ .refl rs rfl⟩
    · cases hf
  · cases hf
theorem cr_anyP (hc : X.calm = true) : CallR X (.builtin "any") (gCall X (on1 anyP)) := cr_on1 fun pins s σ H us Q ι S p x v S' I r rs rp hf k => by
  unfold anyP at hf
  split at hf
  · split at hf
    · rename_i xs eS
      cases hb : boolsP xs with
      | none => rw [hb] at hf; cases hf
      | some bs =>
        rw [hb] at hf
        cases hf
        obtain ⟨a, rfl, h1⟩ := rp
        obtain ⟨vs, h2, h3⟩ := rs.obj _ a _ h1 eS
        have e := bools_rp h3 hb
        subst e
        exact cr_any hc pins s σ H _ us Q I r ⟨a, bs, rfl, .of h2, k _ _ _ .refl rs rfl⟩
    · cases hf
  · cases hf
def intP (p : PV) (S : Sto) : Option (PV × Sto) := match p with
  | .int i => some (.int i, S)
  | .bl k => some (.int (if k then 1 else 0), S)
  | _ => none
theorem cr_int : CallR X (.type "int") (gCall X (on1 intP)) := cr_on1 fun pins s σ H us Q ι S p x v S' I r rs rp hf k => by
  unfold intP at hf
  split at hf
  · cases hf; cases (show x = _ from rp)
    exact call_int1 pins s σ H _ us Q I r (.inl ⟨_, rfl, k _ _ _ .refl rs rfl⟩)
  · cases hf; cases (show x = _ from rp)
    exact call_int1 pins s σ H _ us Q I r (.inr ⟨_, rfl, k _ _ _ .refl rs rfl⟩)
  · cases hf
def absP (p : PV) (S : Sto) : Option (PV × Sto) := match p with | .int i => some (.int (if i < 0 then -i else i), S) | _ => none
theorem cr_abs : CallR X (.builtin "abs") (gCall X (on1 absP)) := cr_on1 fun pins s σ H us Q ι S p x v S' I r rs rp hf k => by
  unfold absP at hf
  split at hf
  · cases hf; cases (show x = _ from rp)
    exact call_abs pins s σ H _ us Q I r ⟨_, rfl, k _ _ _ .refl rs rfl⟩
  · cases hf
def maxP (p q : PV) (S : Sto) : Option (PV × Sto) := match p, q with | .int i, .int j => some (.int (if j > i then j else i), S) | _, _ => none
def minP (p q : PV) (S : Sto) : Option (PV × Sto) := match p, q with | .int i, .int j => some (.int (if j < i then j else i), S) | _, _ => none
theorem cr_max2P (hc : X.calm = true) : CallR X (.builtin "max") (gCall X (on2 maxP)) := by
  intro pins s σ H xs us Q I r ⟨ι, S, ps, v, S', rs, rp, hf, k⟩
  unfold on2 at hf
  split at hf
  · obtain ⟨x, y, rfl, h1, h2⟩ := rpl2 rp
    unfold maxP at hf
    split at hf
    · cases hf; cases (show x = _ from h1); cases (show y = _ from h2)
      exact call_max2 hc pins s σ H _ us Q I r ⟨_, _, rfl, k _ _ _ .refl rs rfl⟩
    · cases hf
  · cases hf
theorem cr_min2P (hc : X.calm = true) : CallR X (.builtin "min") (gCall X (on2 minP)) := by
  intro pins s σ H xs us Q I r ⟨ι, S, ps, v, S', rs, rp, hf, k⟩
  unfold on2 at hf
  split at hf
  · obtain ⟨x, y, rfl, h1, h2⟩ := rpl2 rp
    unfold minP at hf
    split at hf
    · cases hf; cases (show x = _ from h1); cases (show y = _ from h2)
      exact call_min2 hc pins s σ H _ us Q I r ⟨_, _, rfl, k _ _ _ .refl rs rfl⟩
    · cases hf
  · cases hf
/-! ### isinstance(x, T) -/
def tyNm (p : PV) (S : Sto) : Option String := match p with
  | .non => some "NoneType" | .bl _ => some "bool" | .int _ => some "int" | .str _ => some "str" | .tup _ => some "tuple" | .fls _ => some "list"
  | .loc l => match S[l]? with | some (.lst _) => some "list" | some (.dct _) => some "dict" | _ => none
def isiP (T : String) (p : PV) (S : Sto) : Option Bool := (tyNm p S).bind fun t => kitB t T
def isiM (T : String) (m : EM PV) : EM PV := fun τ S => bnd (m τ S) fun p S1 => match isiP T p S1 with | some b => .ok (.bl b) S1 | none => .bad
theorem ty_rp {ι : List Addr} {H : Hp} {S : Sto} {p : PV} {x : V} {t : String} (rs : RSt X.K X.mg ι H S) (rp : Rp X.K ι H p x) (h : tyNm p S = some t) : TyX X.K H x (.type t) := by
  unfold tyNm at h
  split at h
  · cases h; cases (show x = _ from rp); exact .base .non
  · cases h; cases (show x = _ from rp); exact .base (.bl _)
  · cases h; cases (show x = _ from rp); exact .base (.int _)
  · cases h; cases (show x = _ from rp); exact .base (.str _)
  · cases h
    obtain ⟨a, vs, rfl, h1, h2⟩ := rp
    rcases h1 with ⟨o, h1, _⟩ | ⟨o, its, n, h1, h3, _⟩
    · exact .fTuple h1
    · exact .kTuple h1 h3
  · cases h
    obtain ⟨a, vs, rfl, h1, h2⟩ := rp
    rcases h1 with ⟨o, h1⟩ | ⟨o, its, n, h1, h3, _⟩
    · exact .base (.frz h1)
    · exact .kList h1 h3
  · split at h
    · rename_i eS
      cases h
      obtain ⟨a, rfl, h1⟩ := rp
      obtain ⟨vs, h2, h3⟩ := rs.obj _ a _ h1 eS
      exact .base (.lst h2)
    · rename_i eS
      cases h
      obtain ⟨a, rfl, h1⟩ := rp
      obtain ⟨vs, h2, h3⟩ := rs.obj _ a _ h1 eS
      exact .base (.dK h2)
    · cases h
theorem re_isi {x2 : Str} {p p3 : Pos} {T : String} (hg : Gl X "isinstance") (hm : X.mg "isinstance" = none) (hg2 : Gl X x2) (hm2 : X.mg x2 = none) (hv2 : bootBuiltins x2 = some (.type T)) (ha : RE X W a ma)
    (hv : bootBuiltins "isinstance" = some (.builtin "isinstance") := by decide +kernel) (hn2 : x2 ≠ "__name__" := by decide) (hdb2 : (x2 == ("__debug__" : Str)) = false := by decide)
    (he : starEach [a, .Name x2 p3] X.env = (false, eval a X.env) :: starEach [.Name x2 p3] X.env := by rfl) (he2 : starEach [.Name x2 p3] X.env = (false, eval (.Name x2 p3) X.env) :: starEach [] X.env := by rfl)
    (hpl : (backTo pos (starEach [.Name x2 p3] X.env)).any (·.1) = false := by rfl) : RE X W (.Call (.Name "isinstance" p) [a, .Name x2 p3] [] pos) (isiM T ma) := by
  refine ⟨pe_weak (pe_callB call_isi hg hm hv (pa_cons ha.pe (pa_cons (pe_bltn (v := .ty T) hg2 hm2 hv2 rfl hn2 hdb2) pa_nil he2) he) (by decide) (by decide) he hpl) fun σ H Q h => ?_⟩
  obtain ⟨ι, τ, S, r, ρ, pk⟩ := h
  refine ⟨ι, τ, S, r, ρ, pk.next.mono ?_⟩
  rintro x H1 ⟨q, ι1, S1, e1, r1, q1, pk1⟩
  show rIsi X.K [x, .ty T] H1 Q
  unfold isiP at pk1
  cases ht : tyNm q S1 with
  | none => simp only [ht, Option.bind] at pk1; exact pk1.elim
  | some t =>
    simp only [ht, Option.bind] at pk1
    cases hk : kitB t T with
    | none => simp only [hk] at pk1; exact pk1.elim
    | some b =>
      simp only [hk] at pk1
      exact ⟨x, .ty T, .type t, .type T, b, rfl, .ty T, ty_rp r1 q1 ht, kit_ty hk, pk1 _ _ _ .refl r1 rfl⟩
end
end PL
/-! PLF: methods of built-in types, calls of defs, statements, loops. -/
namespace PL
open PySem PySem.Spec PyProof.Rows L2
section
variable {X : Cx} {W : WX} {a b c e o : Expr} {es rest : List Expr} {ma mb mc mo : EM PV} {tA tB' : EM Bool} {mas : EM (List PV)} {pos apos cpos p2 : Pos}
/-! ### methods of built-in types -/
abbrev OpM := PV → List PV → Sto → Option (PV × Sto)
def gMt (X : Cx) (f : OpM) : V → List V → Hp → VK → Prop := fun x xs H Q => ∃ ι S p ps v S', RSt X.K X.mg ι H S ∧ Rp X.K ι H p x ∧ RpL X.K ι H ps xs ∧ f p ps S = some (v, S') ∧
  ∀ ι' H' z, Ext ι H ι' H' → RSt X.K X.mg ι' H' S' → Rp X.K ι' H' v z → Q z H'
def isTy (T : String) (p : PV) (S : Sto) : Bool := match p with
  | .str _ => T == "str"
  | .fls _ => T == "list"
  | .loc l => match S[l]? with | some (.lst _) => T == "list" | some (.dct _) => T == "dict" | _ => false
  | _ => false
theorem isTy_rp {T : String} {ι : List Addr} {H : Hp} {S : Sto} {p : PV} {x : V} (rs : RSt X.K X.mg ι H S) (rp : Rp X.K ι H p x) (h : isTy T p S = true) : tyV X.K T x H := by
  unfold isTy at h
  split at h
  · cases (show x = _ from rp); exact eq_of_beq h
  · obtain ⟨a, vs, rfl, h1, h2⟩ := rp
    exact .inl ⟨eq_of_beq h, vs, h1.seq⟩
  · obtain ⟨a, rfl, h1⟩ := rp
    split at h
    · rename_i eS
      obtain ⟨vs, h2, h3⟩ := rs.obj _ a _ h1 eS
      exact .inl ⟨eq_of_beq h, vs, .of h2⟩
    · rename_i eS
      obtain ⟨vs, h2, h3⟩ := rs.obj _ a _ h1 eS
      exact .inr (.inr (.inl ⟨eq_of_beq h, .inl ⟨vs, h2⟩⟩))
    · cases h
  · cases h
def mtM (T : String) (f : OpM) (m : EM PV) (ms : EM (List PV)) : EM PV := fun τ S => bnd (m τ S) fun p S1 => if isTy T p S1 = true then bnd (ms τ S1) fun ps S2 => lift (f p ps S2) else .bad
theorem re_bm0 {T id : String} {name : Str} {f : OpM} (pa : PlainAttrs T) (slot : Slot T name id) (hty : typeOf (.builtin id) = pure (.type "method_descriptor")) (hm : MtR X id (gMt X f)) (ho : RE X W o mo)
    (hbase : attributeBase o name X.env (eval o X.env) = eval o X.env := by rfl) (hline : (apos.endLine == cpos.line) = true := by rfl) : RE X W (.Call (.Attribute o name apos) [] [] cpos) (mtM T f mo aN) := by
  refine ⟨pe_weak (pe_bm0 pa slot hty hm ho.pe hbase hline) fun σ H Q h => ?_⟩
  obtain ⟨ι, τ, S, r, ρ, pk⟩ := h
  refine ⟨ι, τ, S, r, ρ, pk.next.mono ?_⟩
  rintro x H1 ⟨p, ι1, S1, e1, r1, q1, pk1⟩
  split at pk1
  · rename_i ht
    obtain ⟨v, S', hf, k⟩ := pk_lift (show Pk X W (rV X) σ Q ι1 H1 (lift (f p [] S1)) from pk1)
    exact ⟨isTy_rp r1 q1 ht, ι1, S1, p, [], v, S', r1, q1, rfl, hf, k⟩
  · exact pk1.elim
theorem re_bm {T id : String} {name : Str} {f : OpM} (pa : PlainAttrs T) (slot : Slot T name id) (hty : typeOf (.builtin id) = pure (.type "method_descriptor")) (hm : MtR X id (gMt X f)) (ho : RE X W o mo) (ha : RA X W (e :: es) mas)
    (hbase : attributeBase o name X.env (eval o X.env) = eval o X.env := by rfl)
    (hfew : ((backTo cpos (starEach (e :: es) X.env)).all (fun x => !x.1) && (backToKw cpos (keywordEach [] X.env)).all (fun x => x.1.isSome)
      && decide ((e :: es).length + ([] : List Keyword).length + (if ([] : List Keyword).isEmpty then 0 else 1) < 30)) = true := by rfl)
    (hline : (apos.endLine == cpos.line) = true := by rfl) (hs : starEach (e :: es) X.env = (false, eval e X.env) :: starEach es X.env := by rfl) (hplain : (backTo cpos (starEach es X.env)).any (·.1) = false := by rfl) :
    RE X W (.Call (.Attribute o name apos) (e :: es) [] cpos) (mtM T f mo mas) := by
  refine ⟨pe_weak (pe_bm pa slot hty hm ho.pe ha.pa hbase hfew hline hs hplain) fun σ H Q h => ?_⟩
  obtain ⟨ι, τ, S, r, ρ, pk⟩ := h
  refine ⟨ι, τ, S, r, ρ, pk.next.mono ?_⟩
  rintro x H1 ⟨p, ι1, S1, e1, r1, q1, pk1⟩
  split at pk1
  · rename_i ht
    refine ⟨isTy_rp r1 q1 ht, ι1, τ, S1, r1, ρ.up e1, pk1.next.mono ?_⟩
    rintro xs H2 ⟨ps, ι2, S2, e2, r2, q2, pk2⟩
    obtain ⟨v, S', hf, k⟩ := pk_lift pk2
    exact ⟨ι2, S2, p, ps, v, S', r2, q1.up e2, q2, hf, k⟩
  · exact pk1.elim
theorem nones {ι : List Addr} {H H' : Hp} {S' : Sto} {Q : VK} (k : ∀ ι' H' z, Ext ι H ι' H' → RSt X.K X.mg ι' H' S' → Rp X.K ι' H' .non z → Q z H') (h : Ext ι H ι H' ∧ RSt X.K X.mg ι H' S') : Q .non H' := k ι H' .non h.1 h.2 rfl
def appendP : OpM := fun p ps S => match p, ps with
  | .loc l, [q] => match S[l]? with | some (.lst xs) => if xs.length < 16777216 then some (.non, S.set l (.lst (xs ++ [q]))) else none | _ => none
  | _, _ => none
theorem om_append : MtR X "list.append" (gMt X appendP) := by
  intro pins s σ H x xs v us Q I rx rxs ⟨ι, S, p, ps, w, S', rs, rp, rps, hf, k⟩
  unfold appendP at hf
  split at hf
  · split at hf
    · rename_i ys eS
      split at hf
      · rename_i hl
        cases hf
        obtain ⟨a, rfl, h1⟩ := rp
        obtain ⟨y, rfl, h2⟩ := rpl1 rps
        obtain ⟨vs, h3, h4⟩ := rs.obj _ a _ h1 eS
        refine mt_append pins s σ H _ _ v us Q I rx rxs ⟨a, vs, y, rfl, rfl, h3, by rw [← h4.length, sizeLine_eq]; exact hl, ?_⟩
        exact nones k (rs.wlst h1 (h4.app (RpL.one h2)))
      · cases hf
    · cases hf
  · cases hf
def extendP : OpM := fun p ps S => match p, ps with
  | .loc l, [.loc m] => match S[l]?, S[m]? with
    | some (.lst xs), some (.lst ys) => if xs.length + ys.length ≤ 16777216 then some (.non, S.set l (.lst (xs ++ ys))) else none
    | _, _ => none
  | _, _ => none
theorem om_extend : MtR X "list.extend" (gMt X extendP) := by
  intro pins s σ H x xs v us Q I rx rxs ⟨ι, S, p, ps, w, S', rs, rp, rps, hf, k⟩
  unfold extendP at hf
  split at hf
  · split at hf
    · rename_i ys zs eS eM
      split at hf
      · rename_i hl
        cases hf
        obtain ⟨a, rfl, h1⟩ := rp
        obtain ⟨y, rfl, b, rfl, h2⟩ := rpl1 rps
        obtain ⟨vs, h3, h4⟩ := rs.obj _ a _ h1 eS
        obtain ⟨ws, h5, h6⟩ := rs.obj _ b _ h2 eM
        refine mt_extend pins s σ H _ _ v us Q I rx rxs ⟨a, b, vs, ws, rfl, rfl, h3, h5, by rw [← h4.length, ← h6.length, sizeLine_eq]; exact hl, ?_⟩
        exact nones k (rs.wlst h1 (h4.app h6))
      · cases hf
    · cases hf
  · cases hf
def popP : OpM := fun p ps S => match p with
  | .loc l => match S[l]? with
    | some (.lst xs) => match ps with
      | [] => (xs[xs.length - 1]?).map fun y => (y, S.set l (.lst xs.dropLast))
      | [.int i] => if -4611686018427387904 ≤ i ∧ i < 4611686018427387904 then (ixN xs.length i).bind fun j => (xs[j]?).map fun y => (y, S.set l (.lst (xs.eraseIdx j))) else none
      | _ => none
    | _ => none
  | _ => none
theorem RpL.dropLast {K : PySem.W.Frag} {ι : List Addr} {H : Hp} {xs : List PV} {vs : List V} (h : RpL K ι H xs vs) : RpL K ι H xs.dropLast vs.dropLast := by
  rw [List.dropLast_eq_take, List.dropLast_eq_take, h.length]
  exact h.take _
theorem RpL.erase {K : PySem.W.Frag} {ι : List Addr} {H : Hp} : ∀ {xs : List PV} {vs : List V} (i : Nat), RpL K ι H xs vs → RpL K ι H (xs.eraseIdx i) (vs.eraseIdx i)
  | [], _, i, h => by cases (show _ = _ from h); rfl
  | x :: xs, _, 0, h => by
    obtain ⟨v, r, rfl, _, h2⟩ := h
    exact h2
  | x :: xs, _, i + 1, h => by
    obtain ⟨v, r, rfl, h1, h2⟩ := h
    exact ⟨v, r.eraseIdx i, rfl, h1, RpL.erase i h2⟩
theorem om_pop : MtR X "list.pop" (gMt X popP) := by
  intro pins s σ H x xs v us Q I rx rxs ⟨ι, S, p, ps, w, S', rs, rp, rps, hf, k⟩
  unfold popP at hf
  split at hf
  · split at hf
    · rename_i ys eS
      obtain ⟨a, rfl, h1⟩ := rp
      obtain ⟨vs, h3, h4⟩ := rs.obj _ a _ h1 eS
      split at hf
      · cases (show xs = _ from rps)
        cases hy : ys[ys.length - 1]? with
        | none => rw [hy] at hf; cases hf
        | some y =>
          rw [hy] at hf
          cases hf
          obtain ⟨y', h5, h6⟩ := h4.get hy
          obtain ⟨E, r2⟩ := rs.wlst h1 h4.dropLast
          exact mt_pop pins s σ H _ _ v us Q I rx rxs ⟨a, vs, y', rfl, rfl, h3, by rw [← h4.length]; exact h5, k _ _ _ E r2 (h6.up E)⟩
      · rename_i i
        split at hf
        · rename_i hi
          obtain ⟨z, rfl, h7⟩ := rpl1 rps
          cases (show z = _ from h7)
          cases hj : ixN ys.length i with
          | none => rw [hj] at hf; cases hf
          | some j =>
            rw [hj] at hf
            simp only [Option.bind] at hf
            cases hy : ys[j]? with
            | none => rw [hy] at hf; cases hf
            | some y =>
              rw [hy] at hf
              cases hf
              obtain ⟨y', h5, h6⟩ := h4.get hy
              obtain ⟨E, r2⟩ := rs.wlst h1 (h4.erase j)
              refine mt_popAt pins s σ H _ _ v us Q I rx rxs ⟨a, vs, i, j, y', rfl, rfl, h3, by omega, by omega, ?_, h5, k _ _ _ E r2 (h6.up E)⟩
              rw [← h4.length]
              exact (ixN_seq hj).1
        · cases hf
      · cases hf
    · cases hf
  · cases hf
def insertP : OpM := fun p ps S => match p, ps with
  | .loc l, [.int i, q] => match S[l]? with
    | some (.lst xs) => if xs.length < 16777216 ∧ 0 ≤ i ∧ i < 4611686018427387904 then some (.non, S.set l (.lst (xs.take i.toNat ++ [q] ++ xs.drop i.toNat))) else none
    | _ => none
  | _, _ => none
theorem om_insert : MtR X "list.insert" (gMt X insertP) := by
  intro pins s σ H x xs v us Q I rx rxs ⟨ι, S, p, ps, w, S', rs, rp, rps, hf, k⟩
  unfold insertP at hf
  split at hf
  · rename_i l i q
    split at hf
    · rename_i ys eS
      split at hf
      · rename_i hl
        cases hf
        obtain ⟨a, rfl, h1⟩ := rp
        obtain ⟨y, z, rfl, h2, h5⟩ := rpl2 rps
        cases (show y = _ from h2)
        obtain ⟨vs, h3, h4⟩ := rs.obj _ a _ h1 eS
        refine mt_insert pins s σ H _ _ v us Q I rx rxs ⟨a, vs, i, z, rfl, rfl, h3, by rw [← h4.length, sizeLine_eq]; exact hl.1, hl.2.1, by omega, ?_⟩
        exact nones k (rs.wlst h1 (((h4.take _).app (RpL.one h5)).app (h4.drop _)))
      · cases hf
    · cases hf
  · cases hf
def reverseP : OpM := fun p ps S => match p, ps with
  | .loc l, [] => match S[l]? with | some (.lst xs) => some (.non, S.set l (.lst xs.reverse)) | _ => none
  | _, _ => none
theorem om_reverse : MtR X "list.reverse" (gMt X reverseP) := by
  intro pins s σ H x xs v us Q I rx rxs ⟨ι, S, p, ps, w, S', rs, rp, rps, hf, k⟩
  unfold reverseP at hf
  split at hf
  · split at hf
    · rename_i ys eS
      cases hf
      cases (show xs = _ from rps)
      obtain ⟨a, rfl, h1⟩ := rp
      obtain ⟨vs, h3, h4⟩ := rs.obj _ a _ h1 eS
      exact mt_reverse pins s σ H _ _ v us Q I rx rxs ⟨a, vs, rfl, rfl, h3, nones k (rs.wlst h1 h4.rev)⟩
    · cases hf
  · cases hf
def clearP : OpM := fun p ps S => match p, ps with
  | .loc l, [] => match S[l]? with | some (.lst xs) => some (.non, S.set l (.lst [])) | _ => none
  | _, _ => none
theorem om_clear : MtR X "list.clear" (gMt X clearP) := by
  intro pins s σ H x xs v us Q I rx rxs ⟨ι, S, p, ps, w, S', rs, rp, rps, hf, k⟩
  unfold clearP at hf
  split at hf
  · split at hf
    · rename_i ys eS
      cases hf
      cases (show xs = _ from rps)
      obtain ⟨a, rfl, h1⟩ := rp
      obtain ⟨vs, h3, h4⟩ := rs.obj _ a _ h1 eS
      exact mt_clear pins s σ H _ _ v us Q I rx rxs ⟨a, vs, rfl, rfl, h3, nones k (rs.wlst h1 (show RpL X.K ι H [] [] from rfl))⟩
    · cases hf
  · cases hf
/-- texts -/
def strsP : List PV → Option (List Str)
  | [] => some []
  | .str x :: r => (strsP r).map fun xs => x :: xs
  | _ => none
theorem strs_rp {K : PySem.W.Frag} {ι : List Addr} {H : Hp} : ∀ {xs : List PV} {bs : List Str} {vs : List V}, RpL K ι H xs vs → strsP xs = some bs → vs = bs.map V.str
  | [], bs, _, h, e => by cases e; exact h
  | x :: xs, bs, _, h, e => by
    obtain ⟨v, r, rfl, h1, h2⟩ := h
    cases x with
    | str b =>
      unfold strsP at e
      cases q : strsP xs with
      | none => rw [q] at e; cases e
      | some bs' =>
        rw [q] at e
        cases e
        cases (show v = _ from h1)
        rw [strs_rp h2 q]; rfl
    | _ => cases e
def joinP : OpM := fun p ps S => match p, ps with
  | .str a, [q] => ((itemsP q S).bind strsP).bind fun ys => if (ys.map (·.length)).sum + ys.length * a.length ≤ 16777216 then some (.str (Txt.join a ys), S) else none
  | _, _ => none
theorem om_join : MtR X "str.join" (gMt X joinP) := by
  intro pins s σ H x xs v us Q I rx rxs ⟨ι, S, p, ps, w, S', rs, rp, rps, hf, k⟩
  unfold joinP at hf
  split at hf
  · rename_i a q
    cases hi : itemsP q S with
    | none => rw [hi] at hf; cases hf
    | some xs =>
      rw [hi] at hf
      simp only [Option.bind] at hf
      cases hy : strsP xs with
      | none => rw [hy] at hf; cases hf
      | some ys =>
        rw [hy] at hf
        simp only at hf
        split at hf
        · rename_i hl
          cases hf
          cases (show x = _ from rp)
          obtain ⟨y, rfl, h2⟩ := rpl1 rps
          obtain ⟨b, vs, rfl, h3, h4⟩ := items_rp rs h2 hi
          have e := strs_rp h3 hy
          subst e
          exact mt_join pins s σ H _ _ v us Q I rx rxs ⟨a, b, ys, rfl, rfl, h4.imp id (·.2), hl, k _ _ _ .refl rs rfl⟩
        · cases hf
  · cases hf
end
end PL
/-! PLG: promises by mirrors, calls of defs, statements, loops, comprehensions. -/
namespace PL
open PySem PySem.Spec PyProof.Rows L2
/-! ### a def's promise -/
abbrev FM := List PV → Sto → Out PV
def spD (K : PySem.W.Frag) (mg : Str → Option Value) (n : Nat) (F : FM) : Sp := fun vs H Q E => ∃ ι S ps, RSt K mg ι H S ∧ RpL K ι H ps vs ∧ ps.length = n ∧
  wp (F ps S) (fun v S' => ∀ ι' H' x, Ext ι H ι' H' → RSt K mg ι' H' S' → Rp K ι' H' v x → Q x H')
    (fun c p S' => ∀ ι' H' Ca d x, Ext ι H ι' H' → RSt K mg ι' H' S' → mg c = some (.ref Ca) → H' d = some (.xd [("what", x)]) → Rp K ι' H' p x → E (.ref Ca) (some d) H')
theorem spD_len {K : PySem.W.Frag} {mg : Str → Option Value} {n : Nat} {F : FM} : ∀ vs H Q E, spD K mg n F vs H Q E → vs.length = n := fun vs H Q E ⟨ι, S, ps, _, r, l, _⟩ => by rw [← r.length]; exact l
/-- the body's end as a call's end -/
def callS (n : Nat) (body : SM) : FM := fun ps S => match body (startE n ps) S with
  | .nx _ S' => .ok .non S'
  | .rt v S' => .ok v S'
  | .er c p _ S' => .er c p S'
  | .bad => .bad
def callD (F : FM) (ms : EM (List PV)) : EM PV := fun τ S => bnd (ms τ S) F
section
variable {X : Cx} {W : WX} {a b c e o : Expr} {es rest : List Expr} {ma mb mc mo : EM PV} {tA tB' : EM Bool} {mas : EM (List PV)} {pos apos cpos p2 : Pos}
theorem call_wish {n : Nat} {F : FM} {σ : L2.St} {Q : VK} {ι : List Addr} {H : Hp} {S : Sto} {ps : List PV} {vs : List V} (r : RSt X.K X.mg ι H S) (q : RpL X.K ι H ps vs) (hn : ps.length = n) (pk : Pk X W (rV X) σ Q ι H (F ps S)) : spD X.K X.mg n F vs H Q (WE W σ) :=
  ⟨ι, S, ps, r, q, hn, wp_mono pk (fun _ _ k => k) fun c p S' k ι' H' Ca d x e r m hd hp => k ι' H' Ca d x e r m hd hp⟩
theorem re_call {x : Str} {p : Pos} {n k : Nat} {F : FM} {f : Addr} {fd : FuncData} {ps : List Str} (G : FnOk X.prog X.w X.K X.mg X.base (L2.CX X.prog X.w) k f fd ps (spD X.K X.mg n F)) (hr : Room k X.A) (hg : Gl X x) (hm : X.mg x = some (.ref f)) (hk : PySem.W.keepIn X.K (.ref f) = true) (hb : Binds X.K fd ps [])
    (tk : Takes X W) (ha : RA X W (e :: es) mas) (hn : ∀ τ S qs S', mas τ S = .ok qs S' → qs.length = n) (hdb : (x == ("__debug__" : Str)) = false := by decide) (he : starEach (e :: es) X.env = (false, eval e X.env) :: starEach es X.env := by rfl) (hpl : (backTo pos (starEach es X.env)).any (·.1) = false := by rfl) :
    RE X W (.Call (.Name x p) (e :: es) [] pos) (callD F mas) := by
  refine ⟨pe_weak (pe_callSD (dvs := []) (E := WE W) G hr hg hm hk hb .nil (fun σ => passAt tk σ) ha.pa hdb he hpl) fun σ H Q h => ?_⟩
  obtain ⟨ι, τ, S, r, ρ, pk⟩ := h
  refine ⟨ι, τ, S, r, ρ, ?_⟩
  have hn' := hn τ S
  unfold callD at pk
  cases hm : mas τ S with
  | bad => rw [hm] at pk; exact pk.elim
  | er c p S' => rw [hm] at pk; exact pk
  | ok qs S1 =>
    have hl := hn' qs S1 hm
    rw [hm] at pk
    show ∀ ι' H' x, Ext ι H ι' H' → RSt X.K X.mg ι' H' S1 → RpL X.K ι' H' qs x → spD X.K X.mg n F (x ++ []) H' Q (WE W σ)
    intro ι' H' x e' r' q'
    rw [List.append_nil]
    exact call_wish r' q' hl (Pk.up (o := F qs S1) pk e')
theorem aN_len : ∀ (τ : En) (S : Sto) (qs : List PV) (S' : Sto), aN τ S = .ok qs S' → qs.length = 0 := fun τ S qs S' h => by cases h; rfl
theorem aC_len {n : Nat} {m : EM PV} {ms : EM (List PV)} (h : ∀ (τ : En) (S : Sto) (qs : List PV) (S' : Sto), ms τ S = .ok qs S' → qs.length = n) : ∀ (τ : En) (S : Sto) (qs : List PV) (S' : Sto), aC m ms τ S = .ok qs S' → qs.length = n + 1 := fun τ S qs S' hh => by
  unfold aC at hh
  cases h1 : m τ S with
  | bad => rw [h1] at hh; cases hh
  | er c p S1 => rw [h1] at hh; cases hh
  | ok p S1 =>
    rw [h1] at hh
    simp only [bnd_ok] at hh
    cases h2 : ms τ S1 with
    | bad => rw [h2] at hh; cases hh
    | er c p S1 => rw [h2] at hh; cases hh
    | ok ps S2 =>
      rw [h2] at hh
      cases hh
      simp [h τ S1 ps S' h2]
/-! ### statements -/
def PkS (X : Cx) (W : WX) (D : Ends) (ι : List Addr) (H : Hp) (o : OS) : Prop :=
  wpS o (fun τ' S' => ∀ ι' H' σ', Ext ι H ι' H' → RSt X.K X.mg ι' H' S' → REn X.K ι' H' τ' σ' → D.nx σ' H')
    (fun v S' => ∀ ι' H' x, Ext ι H ι' H' → RSt X.K X.mg ι' H' S' → Rp X.K ι' H' v x → D.rt x H')
    (fun c p τ' S' => ∀ ι' H' σ' Ca d x, Ext ι H ι' H' → RSt X.K X.mg ι' H' S' → REn X.K ι' H' τ' σ' → X.mg c = some (.ref Ca) → H' d = some (.xd [("what", x)]) → Rp X.K ι' H' p x → W (.ref Ca) (some d) σ' H')
theorem PkS.up {D : Ends} {ι ι1 : List Addr} {H H1 : Hp} {o : OS} (h : PkS X W D ι H o) (e : Ext ι H ι1 H1) : PkS X W D ι1 H1 o :=
  wpS_mono h (fun τ S k ι' H' σ' e' => k ι' H' σ' (e.trans e')) (fun v S k ι' H' x e' => k ι' H' x (e.trans e')) fun c p τ S k ι' H' σ' Ca d x e' => k ι' H' σ' Ca d x (e.trans e')
def gS (X : Cx) (W : WX) (m : SM) : TS := fun D σ H => ∃ ι τ S, RSt X.K X.mg ι H S ∧ REn X.K ι H τ σ ∧ PkS X W D ι H (m τ S)
structure RS (X : Cx) (W : WX) (st : Stmt) (m : SM) : Prop where
  ps : PS X st (gS X W m)
structure RSs (X : Cx) (W : WX) (st : List Stmt) (m : SM) : Prop where
  pss : PSs X st (gS X W m)
theorem ps_weak {st : Stmt} {t t' : TS} (h : PS X st t) (w : ∀ D σ H, t' D σ H → t D σ H) : PS X st t' := ⟨fun pins s σ H D I hh => h.run pins s σ H D I (w D σ H hh)⟩
theorem pss_weak {st : List Stmt} {t t' : TS} (h : PSs X st t) (w : ∀ D σ H, t' D σ H → t D σ H) : PSs X st t' := ⟨fun pins s σ H D I hh => h.run pins s σ H D I (w D σ H hh)⟩
/-- an expression's end, then a statement's -/
def bndS {α : Type} (o : Out α) (τ : En) (f : α → Sto → OS) : OS := match o with
  | .ok a S => f a S
  | .er c p S => .er c p τ S
  | .bad => .bad
@[simp] theorem bndS_ok {α : Type} (a : α) (S : Sto) (τ : En) (f : α → Sto → OS) : bndS (.ok a S) τ f = f a S := rfl
@[simp] theorem bndS_er {α : Type} (c : Str) (p : PV) (S : Sto) (τ : En) (f : α → Sto → OS) : bndS (.er c p S) τ f = .er c p τ S := rfl
@[simp] theorem bndS_bad {α : Type} (τ : En) (f : α → Sto → OS) : bndS (.bad : Out α) τ f = .bad := rfl
theorem wpS_bndS {α : Type} (o : Out α) (τ : En) (f : α → Sto → OS) (N : En → Sto → Prop) (T : PV → Sto → Prop) (R : Str → PV → En → Sto → Prop) : wpS (bndS o τ f) N T R = wp o (fun a S => wpS (f a S) N T R) (fun c p S => R c p τ S) := by
  cases o <;> rfl
theorem PkS.next {α β : Type} {R : RR α β} {D : Ends} {σ : L2.St} {ι : List Addr} {H : Hp} {τ : En} {o : Out α} {f : α → Sto → OS} (ρ : REn X.K ι H τ σ) (h : PkS X W D ι H (bndS o τ f)) :
    Pk X W R σ (fun x H1 => ∃ a ι1 S1, Ext ι H ι1 H1 ∧ RSt X.K X.mg ι1 H1 S1 ∧ R ι1 H1 a x ∧ PkS X W D ι1 H1 (f a S1)) ι H o := by
  unfold PkS at h
  rw [wpS_bndS] at h
  exact wp_mono h (fun a S k ι' H' x e r q => ⟨a, ι', S, e, r, q, PkS.up (o := f a S) k e⟩) fun c p S k ι' H' Ca d x e r m hd hp => k ι' H' σ Ca d x e r (ρ.up e) m hd hp
def nopS : SM := fun τ S => .nx τ S
def seqO (o : OS) (k : SM) : OS := match o with
  | .nx τ S => k τ S
  | o => o
@[simp] theorem seqO_nx (τ : En) (S : Sto) (k : SM) : seqO (.nx τ S) k = k τ S := rfl
@[simp] theorem seqO_rt (v : PV) (S : Sto) (k : SM) : seqO (.rt v S) k = .rt v S := rfl
@[simp] theorem seqO_er (c : Str) (p : PV) (τ : En) (S : Sto) (k : SM) : seqO (.er c p τ S) k = .er c p τ S := rfl
@[simp] theorem seqO_bad (k : SM) : seqO .bad k = .bad := rfl
theorem wpS_seqO (o : OS) (k : SM) (N : En → Sto → Prop) (T : PV → Sto → Prop) (R : Str → PV → En → Sto → Prop) : wpS (seqO o k) N T R = wpS o (fun τ S => wpS (k τ S) N T R) T R := by
  cases o <;> rfl
def seqS (s t : SM) : SM := fun τ S => seqO (s τ S) t
theorem rss_nil : RSs X W [] nopS := ⟨pss_weak pss_nil fun D σ H ⟨ι, τ, S, r, ρ, pk⟩ => pk ι H σ .refl r ρ⟩
theorem rss_cons {st : Stmt} {rest : List Stmt} {m k : SM} (h1 : RS X W st m) (h2 : RSs X W rest k) : RSs X W (st :: rest) (seqS m k) := by
  refine ⟨pss_weak (pss_cons h1.ps h2.pss) fun D σ H ⟨ι, τ, S, r, ρ, pk⟩ => ⟨ι, τ, S, r, ρ, ?_⟩⟩
  unfold PkS seqS at pk
  rw [wpS_seqO] at pk
  exact wpS_mono pk (fun τ' S' w ι' H' σ' e r' ρ' => ⟨ι', τ', S', r', ρ', PkS.up (o := k τ' S') w e⟩) (fun _ _ k => k) fun _ _ _ _ k => k
theorem rss_one {st : Stmt} {m : SM} (h1 : RS X W st m) : RSs X W [st] m := ⟨pss_one h1.ps⟩
theorem rs_pass : RS X W (.Pass pos) nopS := ⟨ps_weak ps_pass fun D σ H ⟨ι, τ, S, r, ρ, pk⟩ => pk ι H σ .refl r ρ⟩
theorem rs_doc {x j pos'} : RS X W (.Expr (.Constant (.str x) j pos) pos') nopS := ⟨ps_weak ps_doc fun D σ H ⟨ι, τ, S, r, ρ, pk⟩ => pk ι H σ .refl r ρ⟩
def neverS : SM := fun _ _ => .bad
theorem rs_never {st : Stmt} : RS X W st neverS := ⟨ps_weak ps_never fun D σ H ⟨ι, τ, S, r, ρ, pk⟩ => pk.elim⟩
def exprS (m : EM PV) : SM := fun τ S => bndS (m τ S) τ fun _ S1 => .nx τ S1
theorem rs_expr (he : RE X W e ma) (hs : swapsWith e none pos.line X.env = pure false := by rfl) : RS X W (.Expr e pos) (exprS ma) :=
  ⟨ps_weak (ps_expr he.pe hs) fun D σ H ⟨ι, τ, S, r, ρ, pk⟩ => ⟨ι, τ, S, r, ρ, (PkS.next (R := rV X) ρ pk).mono fun x H1 ⟨p, ι1, S1, e1, r1, q1, pk1⟩ => pk1 ι1 H1 σ .refl r1 (ρ.up e1)⟩⟩
def retS (m : EM PV) : SM := fun τ S => bndS (m τ S) τ fun v S1 => .rt v S1
theorem rs_ret (he : RE X W e ma) : RS X W (.Return (some e) pos) (retS ma) :=
  ⟨ps_weak (ps_ret he.pe) fun D σ H ⟨ι, τ, S, r, ρ, pk⟩ => ⟨ι, τ, S, r, ρ, (PkS.next (R := rV X) ρ pk).mono fun x H1 ⟨p, ι1, S1, e1, r1, q1, pk1⟩ => pk1 ι1 H1 x .refl r1 q1⟩⟩
def retN : SM := fun _ S => .rt .non S
theorem rs_retN : RS X W (.Return none pos) retN := ⟨ps_weak ps_retN fun D σ H ⟨ι, τ, S, r, ρ, pk⟩ => pk ι H .non .refl r rfl⟩
def ifS (c : EM Bool) (s t : SM) : SM := fun τ S => bndS (c τ S) τ fun k S1 => if k = true then s τ S1 else t τ S1
theorem rs_if {sa sb : List Stmt} {s t : SM} (hc : RT X W c tA) (ha : RSs X W sa s) (hb : RSs X W sb t) : RS X W (.If c sa sb pos) (ifS tA s t) := by
  refine ⟨ps_weak (ps_if hc.pt ha.pss hb.pss) fun D σ H ⟨ι, τ, S, r, ρ, pk⟩ => ⟨ι, τ, S, r, ρ, (PkS.next (R := rB) ρ pk).mono fun x H1 ⟨p, ι1, S1, e1, r1, q1, pk1⟩ => ?_⟩⟩
  have q1 : p = x := q1
  subst q1
  cases p with
  | true => exact ⟨ι1, τ, S1, r1, ρ.up e1, pk1⟩
  | false => exact ⟨ι1, τ, S1, r1, ρ.up e1, pk1⟩
/-! ### targets -/
abbrev GM := PV → En → Option En
abbrev GMs := List PV → En → Option En
/-- only the slots sl have changed -/
def Ch (sl : List Nat) (σ σ' : L2.St) : Prop := ∀ vs, (∀ i ∈ sl, i ∈ vs) → wipe σ' vs = wipe σ vs
theorem wipe_set {σ : L2.St} {i : Nat} {x : Option V} : ∀ {vs : List Nat}, i ∈ vs → wipe (σ.set i x) vs = wipe σ vs
  | v :: vs, h => by
    unfold wipe
    by_cases hm : i ∈ vs
    · rw [wipe_set hm]
    · have e : i = v := by
        rcases List.mem_cons.mp h with h | h
        · exact h
        · exact absurd h hm
      subst e
      have comm : ∀ ws : List Nat, i ∉ ws → wipe (σ.set i x) ws = (wipe σ ws).set i x := by
        intro ws
        induction ws with
        | nil => intro _; rfl
        | cons w ws ih =>
          intro hw
          unfold wipe
          rw [ih (fun z => hw (List.mem_cons_of_mem _ z)), List.set_comm _ _ (fun z => hw (by rw [z]; exact List.mem_cons_self))]
      rw [comm vs hm, List.set_set]
theorem Ch.one {σ : L2.St} {i : Nat} {x : Option V} : Ch [i] σ (σ.set i x) := fun vs h => wipe_set (h i (by simp))
theorem Ch.refl {σ : L2.St} : Ch [] σ σ := fun _ _ => rfl
theorem Ch.trans {s1 s2 : List Nat} {σ σ1 σ2 : L2.St} (a : Ch s1 σ σ1) (b : Ch s2 σ1 σ2) : Ch (s1 ++ s2) σ σ2 := fun vs h =>
  (b vs fun i hi => h i (List.mem_append_right _ hi)).trans (a vs fun i hi => h i (List.mem_append_left _ hi))
def gG (X : Cx) (g : GM) (sl : List Nat) : TG := fun v σ H Q => ∃ ι τ S p τ', RSt X.K X.mg ι H S ∧ REn X.K ι H τ σ ∧ Rp X.K ι H p v ∧ g p τ = some τ' ∧ ∀ σ', REn X.K ι H τ' σ' → Ch sl σ σ' → Q σ' H
def gGs (X : Cx) (g : GMs) (sl : List Nat) : TGs := fun vs σ H Q => ∃ ι τ S ps τ', RSt X.K X.mg ι H S ∧ REn X.K ι H τ σ ∧ RpL X.K ι H ps vs ∧ g ps τ = some τ' ∧ ∀ σ', REn X.K ι H τ' σ' → Ch sl σ σ' → Q σ' H
structure RG (X : Cx) (tg : Expr) (g : GM) (sl : List Nat) : Prop where
  pg : PG X tg (gG X g sl)
structure RGs (X : Cx) (tg : List Expr) (g : GMs) (sl : List Nat) : Prop where
  pgs : PGs X tg (gGs X g sl)
theorem pg_weak {tg : Expr} {t t' : TG} (h : PG X tg t) (w : ∀ v σ H Q, t' v σ H Q → t v σ H Q) : PG X tg t' := ⟨fun pins s σ H v u Q I r hh => h.run pins s σ H v u Q I r (w v σ H Q hh)⟩
theorem pgs_weak {tg : List Expr} {t t' : TGs} (h : PGs X tg t) (w : ∀ v σ H Q, t' v σ H Q → t v σ H Q) : PGs X tg t' := ⟨fun pins s σ H v u Q I r hh => h.run pins s σ H v u Q I r (w v σ H Q hh)⟩
def gN (i : Nat) : GM := fun p τ => some (τ.set i (some p))
def gsN : GMs := fun ps τ => match ps with | [] => some τ | _ => none
def gsC (g : GM) (h : GMs) : GMs := fun ps τ => match ps with | p :: r => (g p τ).bind fun τ1 => h r τ1 | _ => none
def gT (n : Nat) (g : GMs) : GM := fun p τ => match p with | .tup xs => if xs.length = n then g xs τ else none | _ => none
theorem rg_name (i : Nat) {x : Str} (hN : X.N.Nodup) (hi : X.N[i]? = some x) (hx : Loc X.env.scope x) (hf : X.fn x = true ∨ X.env.scope.names.lookup x = some .local := by first | exact .inl rfl | exact .inr rfl | assumption) : RG X (.Name x pos) (gN i) [i] :=
  ⟨pg_weak (pg_name hN hi hx hf) fun v σ H Q ⟨ι, τ, S, p, τ', r, ρ, q, e, k⟩ => by cases e; exact k _ (ρ.set i q) .one⟩
theorem rgs_nil : RGs X [] gsN [] := ⟨pgs_weak pgs_nil fun vs σ H Q ⟨ι, τ, S, ps, τ', r, ρ, q, e, k⟩ => by
  unfold gsN at e
  split at e
  · cases e; cases (show vs = _ from q); exact ⟨rfl, k _ ρ .refl⟩
  · cases e⟩
theorem rgs_cons {tg : Expr} {tgs : List Expr} {g : GM} {h : GMs} {s1 s2 : List Nat} (h1 : RG X tg g s1) (h2 : RGs X tgs h s2) (hs : (assignEach (tg :: tgs) X.env).map (·.2) = assign tg X.env :: (assignEach tgs X.env).map (·.2) := by rfl) : RGs X (tg :: tgs) (gsC g h) (s1 ++ s2) :=
  ⟨pgs_weak (pgs_cons h1.pg h2.pgs hs) fun vs σ H Q ⟨ι, τ, S, ps, τ', r, ρ, q, e, k⟩ => by
    unfold gsC at e
    split at e
    · rename_i p pr
      obtain ⟨v, w, rfl, q1, q2⟩ := q
      cases hg : g p τ with
      | none => rw [hg] at e; cases e
      | some τ1 =>
        rw [hg] at e
        exact ⟨v, w, rfl, ι, τ, S, p, τ1, r, ρ, q1, hg, fun σ1 ρ1 c1 => ⟨ι, τ1, S, pr, τ', r, ρ1, q2, e, fun σ2 ρ2 c2 => k σ2 ρ2 (c1.trans c2)⟩⟩
    · cases e⟩
theorem rg_tup {k n : Nat} {es : List Expr} {g : GMs} {sl : List Nat} (hc : X.calm = true) (h : RGs X es g sl) (hn : (assignEach es X.env).length = n := by rfl) (hst : (assignEach es X.env).findIdx? (·.1) = none := by rfl) : RG X (.Tuple es k pos) (gT n g) sl :=
  ⟨pg_weak (pg_tup hc h.pgs hn hst) fun v σ H Q ⟨ι, τ, S, p, τ', r, ρ, q, e, k⟩ => by
    unfold gT at e
    split at e
    · rename_i xs
      split at e
      · rename_i hl
        obtain ⟨a, vs, rfl, h1, h2⟩ := q
        exact ⟨a, vs, rfl, h1.seq, by rw [← h2.length]; exact hl, ι, τ, S, xs, τ', r, ρ, h2, e, k⟩
      · cases e
    · cases e⟩
def asgS (m : EM PV) (g : GM) : SM := fun τ S => bndS (m τ S) τ fun v S1 => match g v τ with | some τ1 => .nx τ1 S1 | none => .bad
theorem asg_read {g : GM} {sl : List Nat} (D : Ends) (σ : L2.St) (H : Hp) (h : gS X W (asgS ma g) D σ H) : tAsg (gE X W (rV X) ma) (gG X g sl) D σ H := by
  obtain ⟨ι, τ, S, r, ρ, pk⟩ := h
  refine ⟨ι, τ, S, r, ρ, (PkS.next (R := rV X) ρ pk).mono fun x H1 ⟨p, ι1, S1, e1, r1, q1, pk1⟩ => ?_⟩
  cases hg : g p τ with
  | none => rw [hg] at pk1; exact pk1.elim
  | some τ1 =>
    rw [hg] at pk1
    exact ⟨ι1, τ, S1, p, τ1, r1, ρ.up e1, q1, hg, fun σ' ρ' _ => pk1 ι1 H1 σ' .refl r1 ρ'⟩
theorem rs_asg {tg : Expr} {g : GM} {sl : List Nat} (he : RE X W e ma) (hg : RG X tg g sl) (hs : swapsWithSole [tg] e pos.line X.env = pure false := by rfl) (hw : swappedStores [tg] e X.env = pure none := by rfl)
    (h1 : (assignEach [tg] X.env).map (·.2) = [assign tg X.env] := by rfl) : RS X W (.Assign [tg] e pos) (asgS ma g) := ⟨ps_weak (ps_asg he.pe hg.pg hs hw h1) asg_read⟩
theorem rs_set (i : Nat) {x : Str} {pos' : Pos} (hN : X.N.Nodup) (hi : X.N[i]? = some x) (hx : Loc X.env.scope x) (he : RE X W e ma) (hs : swapsWith e (some (.Name x pos')) pos.line X.env = pure false := by rfl) (hf : X.fn x = true ∨ X.env.scope.names.lookup x = some .local := by first | exact .inl rfl | exact .inr rfl | assumption) :
    RS X W (.Assign [.Name x pos'] e pos) (asgS ma (gN i)) :=
  ⟨ps_weak (ps_set hN hi hx he.pe hs hf) fun D σ H h => by
    obtain ⟨ι, τ, S, r, ρ, pk⟩ := h
    refine ⟨ι, τ, S, r, ρ, (PkS.next (R := rV X) ρ pk).mono fun x H1 ⟨p, ι1, S1, e1, r1, q1, pk1⟩ => ?_⟩
    exact pk1 ι1 H1 _ .refl r1 ((ρ.up e1).set i q1)⟩
/-- o[i] = e of a list -/
def setP (o i v : PV) (S : Sto) : Option Sto := match o, i with
  | .loc l, .int k => match S[l]? with | some (.lst xs) => (ixN xs.length k).map fun j => S.set l (.lst (xs.set j v)) | _ => none
  | _, _ => none
def setS (m mo mi : EM PV) : SM := fun τ S => bndS (m τ S) τ fun v S1 => bndS (mo τ S1) τ fun o S2 => bndS (mi τ S2) τ fun i S3 => match setP o i v S3 with | some S4 => .nx τ S4 | none => .bad
theorem rs_sub {i : Expr} {mi : EM PV} {pos' : Pos} (he : RE X W e ma) (ho : RE X W o mo) (hi : RE X W i mi)
    (hs : swapsWithSole [.Subscript o i pos'] e pos.line X.env = pure false := by rfl) (hw : swappedStores [.Subscript o i pos'] e X.env = pure none := by rfl)
    (h1 : (assignEach [.Subscript o i pos'] X.env).map (·.2) = [assign (.Subscript o i pos') X.env] := by rfl)
    (ha : ∀ v, assign (.Subscript o i pos') X.env v = (do
      let ov ← holding [v] (eval o X.env)
      let iv ← holding [v, ov] (eval i X.env)
      standAt pos'
      holding [v, ov, iv] (setItem ov iv v)
      release [v, ov, iv] []) := by intro _; rfl) : RS X W (.Assign [.Subscript o i pos'] e pos) (setS ma mo mi) := by
  refine ⟨ps_weak (ps_asg he.pe (pg_sub ho.pe hi.pe set_list ha) hs hw h1) fun D σ H h => ?_⟩
  obtain ⟨ι, τ, S, r, ρ, pk⟩ := h
  refine ⟨ι, τ, S, r, ρ, (PkS.next (R := rV X) ρ pk).mono fun x H1 ⟨p, ι1, S1, e1, r1, q1, pk1⟩ => ?_⟩
  refine ⟨ι1, τ, S1, r1, ρ.up e1, (PkS.next (R := rV X) (ρ.up e1) pk1).mono fun y H2 ⟨q, ι2, S2, e2, r2, q2, pk2⟩ => ?_⟩
  refine ⟨ι2, τ, S2, r2, (ρ.up e1).up e2, (PkS.next (R := rV X) ((ρ.up e1).up e2) pk2).mono fun z H3 ⟨i, ι3, S3, e3, r3, q3, pk3⟩ => ?_⟩
  have ρ3 := ((ρ.up e1).up e2).up e3
  have q1 := (q1.up e2).up e3
  have q2 := q2.up e3
  unfold setP at pk3
  split at pk3
  · rename_i S4 hS
    split at hS
    · split at hS
      · rename_i xs eS
        obtain ⟨a, rfl, h1⟩ := q2
        cases (show z = _ from q3)
        obtain ⟨vs, h2, h3⟩ := r3.obj _ a _ h1 eS
        rw [h3.length] at hS
        obtain ⟨j, hj, rfl⟩ := Option.map_eq_some_iff.mp hS
        obtain ⟨E, r4⟩ := r3.wlst h1 (h3.set j q1)
        exact ⟨a, vs, _, j, rfl, rfl, h2, hj, pk3 _ _ _ E r4 (ρ3.up E)⟩
      · cases hS
    · cases hS
  · exact pk3.elim
/-- name += e -/
def augS (i : Nat) (f : Op2) (m : EM PV) : SM := fun τ S => match τ[i]? with
  | some (some x) => bndS (m τ S) τ fun y S1 => match f x y S1 with | some (z, S2) => .nx (τ.set i (some z)) S2 | none => .bad
  | _ => .bad
theorem rs_aug (i : Nat) {x : Str} {pos' : Pos} {op : Operator} {f : Op2} (hN : X.N.Nodup) (hi : X.N[i]? = some x) (hx : Loc X.env.scope x) (he : RE X W e ma) (ho : PIp X op (gOp X f)) (hf : X.fn x = true ∨ X.env.scope.names.lookup x = some .local := by first | exact .inl rfl | exact .inr rfl | assumption) :
    RS X W (.AugAssign (.Name x pos') op e pos) (augS i f ma) := by
  refine ⟨ps_weak (ps_aug hN hi hx he.pe ho hf) fun D σ H h => ?_⟩
  obtain ⟨ι, τ, S, r, ρ, pk⟩ := h
  unfold augS at pk
  cases hτ : τ[i]? with
  | none => rw [hτ] at pk; exact pk.elim
  | some ov =>
    cases ov with
    | none => rw [hτ] at pk; exact pk.elim
    | some p0 =>
      rw [hτ] at pk
      obtain ⟨x0, h1, h2⟩ := ρ.get hτ
      refine ⟨x0, h1, ι, τ, S, r, ρ, (PkS.next (R := rV X) ρ pk).mono fun y H1 ⟨p, ι1, S1, e1, r1, q1, pk1⟩ => ?_⟩
      cases hf : f p0 p S1 with
      | none => rw [hf] at pk1; exact pk1.elim
      | some zz =>
        obtain ⟨z, S2⟩ := zz
        rw [hf] at pk1
        exact ⟨ι1, S1, p0, p, z, S2, r1, h2.up e1, q1, hf, fun ι' H' w e' r' q' => pk1 _ _ _ e' r' (((ρ.up e1).up e').set i q')⟩
end
end PL
/-! PLH: iterables, for, while, comprehensions. -/
namespace PL
open PySem PySem.Spec PyProof.Rows L2
open Classical in
/-- what is walked: its items, the lists of the store that must stand meanwhile -/
structure Wk where
  items : List PV
  g : List (Nat × List PV) := []
def Wk.ok (t : Wk) (S : Sto) : Prop := ∀ p ∈ t.g, S[p.1]? = some (.lst p.2)
section
variable {X : Cx} {W : WX} {a b c e o tg iter : Expr} {es rest : List Expr} {ma mb mc mo : EM PV} {tA tB' : EM Bool} {mas : EM (List PV)} {pos apos cpos p2 : Pos}
def ItOk (X : Cx) : RR Wk It := fun ι H t J => ∀ (i : Nat) ι2 H2 S2, ExtW ι H ι2 H2 → RSt X.K X.mg ι2 H2 S2 → t.ok S2 →
  (i < t.items.length → J.go i H2 ∧ ∀ x H3, J.yld i H2 x H3 → ∃ p, t.items[i]? = some p ∧ Ext ι2 H2 ι2 H3 ∧ RSt X.K X.mg ι2 H3 S2 ∧ Rp X.K ι2 H3 p x) ∧ (t.items.length ≤ i → J.stop i H2)
structure RI (X : Cx) (W : WX) (tg iter : Expr) (m : EM Wk) : Prop where
  pi : PI X tg iter (gE X W (ItOk X) m)
theorem pi_weak {t t' : TI} (h : PI X tg iter t) (w : ∀ σ H R, t' σ H R → t σ H R) : PI X tg iter t' := ⟨fun pins s σ H R I hh => h.run pins s σ H R I (w σ H R hh)⟩
/-- a list, a tuple, a text -/
def itrP (p : PV) (S : Sto) : Option Wk := match p with
  | .tup xs => some ⟨xs, []⟩
  | .fls xs => some ⟨xs, []⟩
  | .str x => some ⟨x.cps.toList.map fun c => .str ⟨#[c]⟩, []⟩
  | .loc l => match S[l]? with | some (.lst xs) => some ⟨xs, [(l, xs)]⟩ | _ => none
  | _ => none
def seqM (m : EM PV) : EM Wk := fun τ S => bnd (m τ S) fun p S1 => match itrP p S1 with | some t => .ok t S1 | none => .bad
/-- what such a value is, walked -/
def iAny (K : PySem.W.Frag) (tl : TE) : TI := fun σ H R => tl σ H fun x H1 =>
  (∃ a, x = .ref a ∧ (∃ xs, SqL K H1 a xs) ∧ R (Itl K a) H1) ∨ (∃ a, x = .ref a ∧ (∃ xs, SqT K H1 a xs) ∧ R (Itt K a) H1) ∨ ∃ z, x = .str z ∧ R (Its z) H1
theorem pi_any {l : Expr} {tl : TE} (hl : PE X l tl) : PI X tg l (iAny X.K tl) := by
  refine ⟨fun pins s σ H R I h => ?_⟩
  refine thn (hl.run pins s σ H _ I h) fun v s1 ⟨x, H1, I1, r1, q1⟩ => ?_
  rcases q1 with ⟨a, e, ⟨xs, hq⟩, q⟩ | ⟨a, e, ⟨xs, hq⟩, q⟩ | ⟨z, e, q⟩
  · subst e
    cases r1
    obtain ⟨its, rv, p, hz⟩ := I1.list hq
    refine wpAny_pyIter_list p.isList ?_
    refine ⟨s1.heap.objs.size, [s1.heap.objs.size], _, _, H1, rfl, I1.kept (t' := s1.toks) fun b o e => Heap.get?_push_of_some _ e, turn_list a _, ⟨_, Heap.get?_push_size _ rfl, rfl, rfl⟩, fun b hb => ?_, q⟩
    have e : b = s1.heap.objs.size := by simpa using hb
    subst e
    exact I1.fpOk (Nat.le_refl _) (I1.hok.fresh (Nat.le_refl _))
  · subst e
    cases r1
    obtain ⟨its, rv, p, hz⟩ := I1.tuple hq
    refine wpAny_pyIter_tuple (show s1.heap.IsTuple a its.toArray from p) ?_
    refine ⟨s1.heap.objs.size, [s1.heap.objs.size], _, _, H1, rfl, I1.kept (t' := s1.toks) fun b o e => Heap.get?_push_of_some _ e, turn_tuple a _, ⟨_, Heap.get?_push_size _ rfl, rfl, rfl⟩, fun b hb => ?_, q⟩
    have e : b = s1.heap.objs.size := by simpa using hb
    subst e
    exact I1.fpOk (Nat.le_refl _) (I1.hok.fresh (Nat.le_refl _))
  · subst e
    obtain ⟨t, rfl⟩ := r1
    cases ha : z.cps.all (· < 128)
    · exact wpAny_pyIter_wide ha (pi_one (tk := s1.toks) I1 _ (turn_str _ z t "str_iterator" (.inr rfl)) ⟨_, Heap.get?_push_size _ rfl, rfl, rfl⟩ q)
    · exact wpAny_pyIter_ascii ha (pi_one (tk := s1.toks) I1 _ (turn_str _ z t "str_ascii_iterator" (.inl rfl)) ⟨_, Heap.get?_push_size _ rfl, rfl, rfl⟩ q)
theorem sql_inj {K : PySem.W.Frag} {H : Hp} {a : Addr} {xs ys : List V} (h : H a = some (.lst xs)) (h' : SqL K H a ys) (hk : K.lookup a = none) : ys = xs := by
  rcases h' with (h' | ⟨o, h'⟩) | ⟨o, its, n, h', _⟩
  · rw [h] at h'; cases h'; rfl
  · rw [h] at h'; cases h'
  · rw [hk] at h'; cases h'
theorem get_len {α : Type} {xs : List α} {i : Nat} (h : i < xs.length) : ∃ x, xs[i]? = some x := ⟨xs[i], List.getElem?_eq_getElem h⟩
theorem itr_ok {ι : List Addr} {H : Hp} {S : Sto} {p : PV} {x : V} {t : Wk} {R : It → Hp → Prop} (rs : RSt X.K X.mg ι H S) (rp : Rp X.K ι H p x) (h : itrP p S = some t) (k : ∀ J, ItOk X ι H t J → R J H) :
    (∃ a, x = .ref a ∧ (∃ xs, SqL X.K H a xs) ∧ R (Itl X.K a) H) ∨ (∃ a, x = .ref a ∧ (∃ xs, SqT X.K H a xs) ∧ R (Itt X.K a) H) ∨ ∃ z, x = .str z ∧ R (Its z) H := by
  unfold itrP at h
  split at h
  · rename_i xs
    cases h
    obtain ⟨a, vs, rfl, h1, h2⟩ := rp
    refine .inr (.inl ⟨a, rfl, ⟨vs, h1.seq⟩, k _ fun i ι2 H2 S2 e r2 _ => ⟨fun hi => ?_, fun hi => ?_⟩⟩)
    · have hi : i < xs.length := hi
      obtain ⟨p, hp⟩ := get_len hi
      obtain ⟨v, hv, rv⟩ := h2.get hp
      exact ⟨⟨vs, v, (h1.upW e).seq, hv⟩, fun x H3 hy => by
        obtain ⟨rfl, hf⟩ := hy
        have e1 := hf vs (h1.upW e).seq
        rw [hv] at e1; cases e1
        exact ⟨p, hp, .refl, r2, Rp.upW e _ _ rv⟩⟩
    · exact ⟨vs, (h1.upW e).seq, by rw [← h2.length]; exact hi⟩
  · rename_i xs
    cases h
    obtain ⟨a, vs, rfl, h1, h2⟩ := rp
    refine .inl ⟨a, rfl, ⟨vs, h1.seq⟩, k _ fun i ι2 H2 S2 e r2 _ => ⟨fun hi => ?_, fun hi => ?_⟩⟩
    · have hi : i < xs.length := hi
      obtain ⟨p, hp⟩ := get_len hi
      obtain ⟨v, hv, rv⟩ := h2.get hp
      exact ⟨⟨vs, v, (h1.upW e).seq, hv⟩, fun x H3 hy => by
        obtain ⟨rfl, hf⟩ := hy
        have e1 := hf vs (h1.upW e).seq
        rw [hv] at e1; cases e1
        exact ⟨p, hp, .refl, r2, Rp.upW e _ _ rv⟩⟩
    · exact ⟨vs, (h1.upW e).seq, by rw [← h2.length]; exact hi⟩
  · rename_i z
    cases h
    cases (show x = _ from rp)
    refine .inr (.inr ⟨z, rfl, k _ fun i ι2 H2 S2 e r2 _ => ⟨fun hi => ?_, fun hi => ?_⟩⟩)
    · have hi' : i < z.cps.size := by simpa using hi
      exact ⟨hi', fun x H3 hy => by
        obtain ⟨rfl, c, hc, rfl⟩ := hy
        exact ⟨.str ⟨#[c]⟩, by simp [hc], .refl, r2, rfl⟩⟩
    · show z.cps.size ≤ i
      simpa using hi
  · split at h
    · rename_i l _ xs eS
      cases h
      obtain ⟨a, rfl, h1⟩ := rp
      obtain ⟨vs0, h2, h3⟩ := rs.obj _ a _ h1 eS
      refine .inl ⟨a, rfl, ⟨vs0, .of h2⟩, k _ fun i ι2 H2 S2 e r2 ok => ?_⟩
      have hS2 : S2[l]? = some (.lst xs) := ok (l, xs) (by simp)
      obtain ⟨vs, h4, h5⟩ := r2.obj l a _ (e.pre l a h1) hS2
      refine ⟨fun hi => ?_, fun hi => ?_⟩
      · have hi : i < xs.length := hi
        obtain ⟨p, hp⟩ := get_len hi
        obtain ⟨v, hv, rv⟩ := h5.get hp
        exact ⟨⟨vs, v, .of h4, hv⟩, fun x H3 hy => by
          obtain ⟨rfl, hf⟩ := hy
          have e1 := hf vs (.of h4)
          rw [hv] at e1; cases e1
          exact ⟨p, hp, .refl, r2, rv⟩⟩
      · exact ⟨vs, .of h4, by rw [← h5.length]; exact hi⟩
    · cases h
  · cases h
theorem ri_seq (h : RE X W iter ma) : RI X W tg iter (seqM ma) := ⟨pi_weak (pi_any h.pe) fun σ H R hh => by
  obtain ⟨ι, τ, S, r, ρ, pk⟩ := hh
  refine ⟨ι, τ, S, r, ρ, pk.next.mono fun x H1 ⟨p, ι1, S1, e1, r1, q1, pk1⟩ => ?_⟩
  cases ht : itrP p S1 with
  | none => rw [ht] at pk1; exact pk1.elim
  | some t =>
    rw [ht] at pk1
    exact itr_ok r1 q1 ht fun J hJ => pk1 ι1 H1 J .refl r1 hJ⟩
/-- range(n), range(a, b) -/
def rngI (lo hi : Int) : List PV := (List.range (hi - lo).toNat).map fun (i : Nat) => PV.int (lo + (i : Int))
theorem rngI_len (lo hi : Int) : (rngI lo hi).length = (hi - lo).toNat := by unfold rngI; simp
def rngOk (i : Int) : Prop := -4611686018427387904 ≤ i ∧ i < 4611686018427387904
noncomputable instance (i : Int) : Decidable (rngOk i) := Classical.propDecidable _
noncomputable def rng1M (m : EM PV) : EM Wk := fun τ S => bnd (m τ S) fun p S1 => match p with | .int n => if rngOk n then .ok ⟨rngI 0 n, []⟩ S1 else .bad | _ => .bad
noncomputable def rng2M (m m' : EM PV) : EM Wk := fun τ S => bnd (m τ S) fun p S1 => bnd (m' τ S1) fun q S2 => match p, q with | .int a, .int b => if rngOk a ∧ rngOk b then .ok ⟨rngI a b, []⟩ S2 else .bad | _, _ => .bad
theorem rng_ok {ι : List Addr} {H : Hp} {lo hi : Int} : ItOk X ι H ⟨rngI lo hi, []⟩ (L2.Itr lo (hi - lo).toNat) := fun i ι2 H2 S2 e r2 _ => by
  rw [show ({ items := rngI lo hi, g := [] } : Wk).items.length = (hi - lo).toNat from rngI_len lo hi]
  refine ⟨fun hi' => ⟨hi', fun x H3 hy => ?_⟩, fun h => h⟩
  obtain ⟨rfl, rfl⟩ := hy
  refine ⟨.int (lo + i), ?_, .refl, r2, rfl⟩
  show (rngI lo hi)[i]? = _
  unfold rngI
  rw [List.getElem?_map, List.getElem?_range hi']; rfl
theorem ri_range1 {p : Pos} (hg : Gl X "range") (hm : X.mg "range" = none) (ha : RE X W a ma) (hs : starEach [a] X.env = [(false, eval a X.env)] := by rfl) : RI X W tg (.Call (.Name "range" p) [a] [] pos) (rng1M ma) :=
  ⟨pi_weak (pi_range1 hg hm (pa_cons ha.pe pa_nil hs) hs) fun σ H R hh => by
    obtain ⟨ι, τ, S, r, ρ, pk⟩ := hh
    refine ⟨ι, τ, S, r, ρ, pk.next.mono fun x H1 ⟨p, ι1, S1, e1, r1, q1, pk1⟩ => ?_⟩
    cases p with
    | int n =>
      simp only at pk1
      split at pk1
      · rename_i hn
        obtain ⟨h1, h2⟩ := hn
        cases (show x = _ from q1)
        refine ⟨n, rfl, by omega, by omega, pk1 ι1 H1 _ .refl r1 ?_⟩
        have := @rng_ok X ι1 H1 0 n
        rw [Int.sub_zero] at this
        exact this
      · exact pk1.elim
    | _ => exact pk1.elim⟩
theorem ri_range2 {p : Pos} (hg : Gl X "range") (hm : X.mg "range" = none) (ha : RE X W a ma) (hb : RE X W b mb) (hs : starEach [a, b] X.env = [(false, eval a X.env), (false, eval b X.env)] := by rfl) (hs2 : starEach [b] X.env = [(false, eval b X.env)] := by rfl) : RI X W tg (.Call (.Name "range" p) [a, b] [] pos) (rng2M ma mb) :=
  ⟨pi_weak (pi_range2 hg hm (pa_cons ha.pe (pa_cons hb.pe pa_nil hs2) (by rw [hs, hs2])) hs hs2) fun σ H R hh => by
    obtain ⟨ι, τ, S, r, ρ, pk⟩ := hh
    refine ⟨ι, τ, S, r, ρ, pk.next.mono fun x H1 ⟨p, ι1, S1, e1, r1, q1, pk1⟩ => ?_⟩
    refine ⟨ι1, τ, S1, r1, ρ.up e1, pk1.next.mono fun y H2 ⟨q, ι2, S2, e2, r2, q2, pk2⟩ => ?_⟩
    split at pk2
    · split at pk2
      · rename_i hn
        obtain ⟨⟨h1, h2⟩, h3, h4⟩ := hn
        cases (show x = _ from q1)
        cases (show y = _ from q2)
        exact ⟨_, _, rfl, ⟨by omega, by omega, by omega, by omega⟩, pk2 ι2 H2 _ .refl r2 rng_ok⟩
      · exact pk2.elim
    · exact pk2.elim⟩
/-- enumerate(xs) of a list -/
def enumI (xs : List PV) : List PV := (xs.zipIdx).map fun p => .tup [.int (p.2 : Nat), p.1]
def enumM (m : EM PV) : EM Wk := fun τ S => bnd (m τ S) fun p S1 => match p with
  | .fls xs => .ok ⟨enumI xs, []⟩ S1
  | .loc l => match S1[l]? with | some (.lst xs) => .ok ⟨enumI xs, [(l, xs)]⟩ S1 | _ => .bad
  | _ => .bad
theorem enumI_at {xs : List PV} {i : Nat} {x : PV} (h : xs[i]? = some x) : (enumI xs)[i]? = some (.tup [.int (i : Nat), x]) := by
  unfold enumI
  rw [List.getElem?_map, List.getElem?_zipIdx, h]
  simp
theorem ri_enum {k : Nat} {elts : List Expr} {p tpos : Pos} (hg : Gl X "enumerate") (hm : X.mg "enumerate" = none) (ha : RE X W a ma) (hs : starEach [a] X.env = [(false, eval a X.env)] := by rfl) : RI X W (.Tuple elts k tpos) (.Call (.Name "enumerate" p) [a] [] pos) (enumM ma) :=
  ⟨pi_weak (PLz.pi_enumZ hg hm (pa_cons ha.pe pa_nil hs) hs) fun σ H R hh => by
    obtain ⟨ι, τ, S, r, ρ, pk⟩ := hh
    refine ⟨ι, τ, S, r, ρ, pk.next.mono fun x H1 ⟨p, ι1, S1, e1, r1, q1, pk1⟩ => ?_⟩
    have go : ∀ (a : Addr) (xs : List PV) (g : List (Nat × List PV)) (vs0 : List V), x = .ref a → SqL X.K H1 a vs0 → (∀ ι2 H2 S2, ExtW ι1 H1 ι2 H2 → RSt X.K X.mg ι2 H2 S2 → Wk.ok ⟨enumI xs, g⟩ S2 → ∃ vs, SqL X.K H2 a vs ∧ RpL X.K ι2 H2 xs vs) →
        (∀ J, ItOk X ι1 H1 ⟨enumI xs, g⟩ J → R J H1) → ∃ a xs, [x] = [V.ref a] ∧ SqL X.K H1 a xs ∧ R (PLz.Itez X.K a) H1 := by
      intro a xs g vs0 ex h0 st k
      refine ⟨a, vs0, by rw [ex], h0, k _ fun i ι2 H2 S2 e r2 ok => ?_⟩
      obtain ⟨vs, h2, h3⟩ := st ι2 H2 S2 e r2 ok
      have hlen : ({ items := enumI xs, g := g } : Wk).items.length = xs.length := by show (enumI xs).length = _; unfold enumI; simp
      rw [hlen]
      refine ⟨fun hi => ?_, fun hi => ⟨vs, h2, by rw [← h3.length]; exact hi⟩⟩
      obtain ⟨p, hp⟩ := get_len hi
      obtain ⟨v, hv, rv⟩ := h3.get hp
      refine ⟨⟨vs, v, h2, hv⟩, fun x H3 hy => ?_⟩
      obtain ⟨T, y, o, rfl, hT, ho, rfl, hf⟩ := hy
      have e1 := hf vs h2
      rw [hv] at e1; cases e1
      obtain ⟨E, r3⟩ := r2.tup (ho := .frz o (.tup [.int (i : Nat), v])) hT
      exact ⟨_, enumI_at hp, E, r3, T, _, rfl, .inl ⟨o, upd_same, ho⟩, ⟨.int (i : Nat), [v], rfl, rfl, v, [], rfl, rv.up E, rfl⟩⟩
    split at pk1
    · rename_i xs
      obtain ⟨a, vs, ex, h1, h2⟩ := q1
      exact go a xs [] vs ex h1.seq (fun ι2 H2 S2 e r2 _ => ⟨vs, (h1.upW e).seq, RpL.upW e _ _ h2⟩) fun J hJ => pk1 ι1 H1 J .refl r1 hJ
    · rename_i l
      split at pk1
      · rename_i xs eS
        obtain ⟨a, ex, h1⟩ := q1
        obtain ⟨vs, h2, h3⟩ := r1.obj _ a _ h1 eS
        exact go a xs _ vs ex (.of h2) (fun ι2 H2 S2 e r2 ok => by
          obtain ⟨vs', h4, h5⟩ := r2.obj l a _ (e.pre l a h1) (ok (l, xs) (by simp))
          exact ⟨vs', .of h4, h5⟩) fun J hJ => pk1 ι1 H1 J .refl r1 hJ
      · exact pk1.elim
    · exact pk1.elim⟩
/-! ### for -/
open Classical in
noncomputable def forL (t : Wk) (g : GM) (b : SM) : List PV → SM
  | [] => fun τ S => if t.ok S then .nx τ S else .bad
  | p :: r => fun τ S => if t.ok S then (match g p τ with | some τ1 => seqO (b τ1 S) (forL t g b r) | none => .bad) else .bad
noncomputable def forS (m : EM Wk) (g : GM) (b : SM) : SM := fun τ S => bndS (m τ S) τ fun t S1 => forL t g b t.items τ S1
theorem drop_of_get {α : Type} {xs : List α} {i : Nat} {x : α} (h : xs[i]? = some x) : xs.drop i = x :: xs.drop (i + 1) := by
  obtain ⟨hl, e⟩ := List.getElem?_eq_some_iff.mp h
  rw [List.drop_eq_getElem_cons hl, e]
theorem rs_for {m : EM Wk} {g : GM} {sl : List Nat} {b : SM} {body : List Stmt} (hp : PassesOwn (model X.prog X.w) X.A X.env X.xe) (hc : X.calm = true) (hi : RI X W tg iter m) (hg : RG X tg g sl) (hb : RSs X W body b)
    (hs : ∀ x, foldedSetIterable iter X.env x = pure x := by intro _; rfl) : RS X W (.For tg iter body [] pos) (forS m g b) := by
  refine ⟨ps_weak (ps_for hp hc hi.pi hg.pg hb.pss hs) fun D σ H ⟨ι, τ, S, r, ρ, pk⟩ => ⟨ι, τ, S, r, ρ, (PkS.next (R := ItOk X) ρ pk).mono ?_⟩⟩
  rintro J H1 ⟨t, ι1, S1, e1, r1, q1, pk1⟩
  refine ⟨fun i n σ H => ∃ ι τ S, Ext ι1 H1 ι H ∧ RSt X.K X.mg ι H S ∧ REn X.K ι H τ σ ∧ n = t.items.length - i ∧ i ≤ t.items.length ∧ PkS X W D ι H (forL t g b (t.items.drop i) τ S),
    ⟨t.items.length, ι1, τ, S1, .refl, r1, ρ.up e1, by simp, Nat.zero_le _, by rw [List.drop_zero]; exact pk1⟩, ?_⟩
  rintro i n σ2 H2 ⟨ι2, τ2, S2, e2, r2, ρ2, hn, hle, pk2⟩
  by_cases hlt : i < t.items.length
  · obtain ⟨p, hp⟩ := get_len hlt
    rw [drop_of_get hp] at pk2
    unfold forL at pk2
    split at pk2
    · rename_i ok
      obtain ⟨go, step⟩ := (q1 i ι2 H2 S2 e2.w r2 ok).1 hlt
      cases hgp : g p τ2 with
      | none => rw [hgp] at pk2; exact pk2.elim
      | some τ3 =>
        rw [hgp] at pk2
        unfold PkS at pk2
        rw [wpS_seqO] at pk2
        refine .inr ⟨go, fun σ' H' => ∃ ι τ S, Ext ι1 H1 ι H' ∧ RSt X.K X.mg ι H' S ∧ REn X.K ι H' τ σ' ∧ PkS X W D ι H' (forL t g b (t.items.drop (i + 1)) τ S), fun σ' H' ⟨ι', τ', S', e', r', ρ', pk'⟩ => ⟨n - 1, by omega, ι', τ', S', e', r', ρ', by omega, by omega, pk'⟩, fun x H3 hy => ?_⟩
        obtain ⟨p', hp', E3, r3, rv3⟩ := step x H3 hy
        rw [hp] at hp'; cases hp'
        refine ⟨ι2, τ2, S2, p, τ3, r3, ρ2.up E3, rv3, hgp, fun σ3 ρ3 _ => ⟨ι2, τ3, S2, r3, ρ3, ?_⟩⟩
        exact wpS_mono pk2 (fun τ' S' w ι' H' σ' e' r' ρ' => ⟨ι', τ', S', e2.trans (E3.trans e'), r', ρ', PkS.up (o := forL t g b (t.items.drop (i + 1)) τ' S') w (E3.trans e')⟩)
          (fun v S' k ι' H' x e' => k ι' H' x (E3.trans e')) fun c p τ S k ι' H' σ' Ca d x e' => k ι' H' σ' Ca d x (E3.trans e')
    · exact pk2.elim
  · have hi' : i = t.items.length := by omega
    rw [hi', List.drop_length] at pk2
    unfold forL at pk2
    split at pk2
    · rename_i ok
      exact .inl ⟨(q1 i ι2 H2 S2 e2.w r2 ok).2 (by omega), pk2 ι2 H2 σ2 .refl r2 ρ2⟩
    · exact pk2.elim
/-! ### while -/
def whileN (c : EM Bool) (b : SM) : Nat → SM
  | 0 => fun _ _ => .bad
  | n + 1 => fun τ S => bndS (c τ S) τ fun k S1 => if k = true then seqO (b τ S1) (whileN c b n) else .nx τ S1
open Classical in
noncomputable def whileS (c : EM Bool) (b : SM) : SM := fun τ S => if h : ∃ n, whileN c b n τ S ≠ .bad then whileN c b (choose h) τ S else .bad
theorem rs_while {b : SM} {body : List Stmt} (hp : PassesOwn (model X.prog X.w) X.A X.env X.xe) (hc : RT X W c tA) (hb : RSs X W body b) : RS X W (.While c body [] pos) (whileS tA b) := by
  refine ⟨ps_weak (ps_while hp hc.pt hb.pss) fun D σ H ⟨ι, τ, S, r, ρ, pk⟩ => ?_⟩
  have hN : ∃ n, PkS X W D ι H (whileN tA b n τ S) := by
    unfold whileS at pk
    split at pk
    · exact ⟨_, pk⟩
    · exact pk.elim
  refine ⟨fun n σ H => ∃ ι τ S, RSt X.K X.mg ι H S ∧ REn X.K ι H τ σ ∧ PkS X W D ι H (whileN tA b n τ S), (let ⟨n, h⟩ := hN; ⟨n, ι, τ, S, r, ρ, h⟩), ?_⟩
  rintro n σ1 H1 ⟨ι1, τ1, S1, r1, ρ1, pk1⟩
  cases n with
  | zero => exact pk1.elim
  | succ n =>
    refine ⟨ι1, τ1, S1, r1, ρ1, (PkS.next (R := rB) ρ1 pk1).mono ?_⟩
    rintro k H2 ⟨k', ι2, S2, e2, r2, q2, pk2⟩
    have q2 : k' = k := q2
    subst q2
    cases k' with
    | false => exact pk2 ι2 H2 σ1 .refl r2 (ρ1.up e2)
    | true =>
      rw [if_pos rfl] at pk2 ⊢
      unfold PkS at pk2
      rw [wpS_seqO] at pk2
      refine ⟨fun σ' H' => ∃ ι τ S, RSt X.K X.mg ι H' S ∧ REn X.K ι H' τ σ' ∧ PkS X W D ι H' (whileN tA b n τ S), fun σ' H' h => ⟨n, Nat.lt_succ_self n, h⟩, ι2, τ1, S2, r2, ρ1.up e2, ?_⟩
      exact wpS_mono pk2 (fun τ' S' w ι' H' σ' e' r' ρ' => ⟨ι', τ', S', r', ρ', PkS.up (o := whileN tA b n τ' S') w e'⟩) (fun _ _ k => k) fun _ _ _ _ k => k
/-! ### comprehensions -/
def wipeE (τ : En) : List Nat → En
  | [] => τ
  | v :: vs => (wipeE τ vs).set v none
theorem REn.wipe {K : PySem.W.Frag} {ι : List Addr} {H : Hp} {τ : En} {σ : L2.St} (h : REn K ι H τ σ) : ∀ vs, REn K ι H (wipeE τ vs) (wipe σ vs)
  | [] => h
  | v :: vs => (REn.wipe h vs).unset v
structure RTs (X : Cx) (W : WX) (ifs : List Expr) (m : EM Bool) : Prop where
  pts : PTs X ifs (gE X W rB m)
def yesM : EM Bool := fun _ S => .ok true S
theorem pts_weak {ifs : List Expr} {t t' : TT} (h : PTs X ifs t) (w : ∀ σ H Q, t' σ H Q → t σ H Q) : PTs X ifs t' := ⟨fun pins s σ H Q I hh => h.run pins s σ H Q I (w σ H Q hh)⟩
theorem rts_nil : RTs X W [] yesM := ⟨pts_weak pts_nil fun σ H Q ⟨ι, τ, S, r, ρ, pk⟩ => pk ι H true .refl r rfl⟩
theorem rts_one (h : RT X W c tA) : RTs X W [c] tA := ⟨pts_one h.pt⟩
/-- within a comprehension nothing is let out -/
abbrev W0 : WX := fun _ _ _ _ => False
def noEr {α : Type} (o : Out α) : Out α := match o with
  | .ok a S => .ok a S
  | _ => .bad
@[simp] theorem noEr_ok {α : Type} (a : α) (S : Sto) : noEr (.ok a S) = .ok a S := rfl
@[simp] theorem noEr_bad {α : Type} : noEr (.bad : Out α) = .bad := rfl
@[simp] theorem noEr_er {α : Type} (c : Str) (p : PV) (S : Sto) : noEr (.er c p S : Out α) = .bad := rfl
theorem pk_noEr {α β : Type} {R : RR α β} {σ : L2.St} {Q : β → Hp → Prop} {ι : List Addr} {H : Hp} {o : Out α} (h : Pk X W R σ Q ι H (noEr o)) : Pk X W0 R σ Q ι H o := by
  cases o with
  | ok a S => exact h
  | _ => exact h.elim
theorem wipe_wipe {σ : L2.St} : ∀ vs : List Nat, wipe (wipe σ vs) vs = wipe σ vs := by
  have set_wipe : ∀ (ws : List Nat) (σ : L2.St) (i : Nat), wipe (σ.set i none) ws = (wipe σ ws).set i none := by
    intro ws
    induction ws with
    | nil => intro σ i; rfl
    | cons w ws ih =>
      intro σ i
      unfold wipe
      rw [ih]
      by_cases e : i = w
      · subst e; rfl
      · rw [List.set_comm _ _ e]
  intro vs
  induction vs with
  | nil => rfl
  | cons v vs ih =>
    show (wipe ((wipe σ vs).set v none) vs).set v none = _
    rw [set_wipe, ih, List.set_set]
    rfl
def stepE (tt : EM Bool) (el : EM PV) : List PV → En → Sto → Out (List PV) := fun acc τ S => bnd (noEr (tt τ S)) fun k S1 =>
  if k = true then bnd (noEr (el τ S1)) fun y S2 => if acc.length < 16777216 then .ok (acc ++ [y]) S2 else .bad else .ok acc S1
open Classical in
noncomputable def accL (t : Wk) (g : GM) (step : List PV → En → Sto → Out (List PV)) : List PV → List PV → En → Sto → Out (List PV)
  | acc, [] => fun _ S => if t.ok S then .ok acc S else .bad
  | acc, p :: r => fun τ S => if t.ok S then (match g p τ with | some τ1 => bnd (step acc τ1 S) fun acc' S1 => accL t g step acc' r τ S1 | none => .bad) else .bad
open Classical in
theorem accL_cons (t : Wk) (g : GM) (step : List PV → En → Sto → Out (List PV)) (acc : List PV) (p : PV) (r : List PV) (τ : En) (S : Sto) : accL t g step acc (p :: r) τ S =
    if t.ok S then (match g p τ with | some τ1 => bnd (step acc τ1 S) fun acc' S1 => accL t g step acc' r τ S1 | none => .bad) else .bad := rfl
open Classical in
theorem accL_nil (t : Wk) (g : GM) (step : List PV → En → Sto → Out (List PV)) (acc : List PV) (τ : En) (S : Sto) : accL t g step acc [] τ S = if t.ok S then .ok acc S else .bad := rfl
def newL (o : Out (List PV)) : Out PV := bnd o fun acc S => .ok (.loc S.length) (S ++ [.lst acc])
noncomputable def compM (m : EM Wk) (g : GM) (tt : EM Bool) (el : EM PV) (vs : List Nat) : EM PV := fun τ S => bnd (m τ S) fun t S1 => newL (accL t g (stepE tt el) [] t.items (wipeE τ vs) S1)
/-- the list at D, not ours yet -/
structure Dl (K : PySem.W.Frag) (ι : List Addr) (H : Hp) (D : Addr) (acc : List PV) : Prop where
  nin : D ∉ ι
  obj : ∃ vs, H D = some (.lst vs) ∧ RpL K ι H acc vs
theorem Dl.up {ι ι' : List Addr} {H H' : Hp} {D : Addr} {acc : List PV} (d : Dl X.K ι H D acc) (e : Ext ι H ι' H') : Dl X.K ι' H' D acc := by
  obtain ⟨vs, h1, h2⟩ := d.obj
  refine ⟨fun hm => ?_, vs, e.fr D _ h1 d.nin, h2.up e⟩
  rcases e.new D hm with q | q
  · exact d.nin q
  · rw [h1] at q; cases q
theorem extW_upd {ι : List Addr} {H : Hp} {vs ws : List V} (h : H D = some (.lst vs)) : ExtW ι H ι (upd H D (.lst ws)) :=
  ⟨fun _ _ h => h, fun a xs e => by rw [upd_ne (fun z => by subst z; rw [h] at e; cases e)]; exact e, fun a o u e => by rw [upd_ne (fun z => by subst z; rw [h] at e; cases e)]; exact e⟩
/-- the list at D is written -/
theorem Dl.write {ι1 ι : List Addr} {H1 H : Hp} {S : Sto} {D : Addr} {vs ws : List V} {acc : List PV} (hD : H1 D = none) (e : Ext ι1 H1 ι H) (r : RSt X.K X.mg ι H S) (nin : D ∉ ι) (h : H D = some (.lst vs)) (h2 : RpL X.K ι H acc ws) :
    Ext ι1 H1 ι (upd H D (.lst ws)) ∧ RSt X.K X.mg ι (upd H D (.lst ws)) S ∧ Dl X.K ι (upd H D (.lst ws)) D acc ∧ ExtW ι H ι (upd H D (.lst ws)) := by
  have eb : ExtW ι H ι (upd H D (.lst ws)) := extW_upd h
  refine ⟨⟨e.pre, fun a o q n => ?_, e.new, fun a xs q => ?_, fun a o u q => ?_⟩, ⟨r.len, r.nd, fun l a o e1 e2 => ?_⟩, ⟨nin, ws, upd_same, RpL.upW eb _ _ h2⟩, eb⟩
  · rw [upd_ne (ne_of_none q hD)]; exact e.fr a o q n
  · rw [upd_ne (ne_of_none q hD)]; exact e.tups a xs q
  · rw [upd_ne (ne_of_none q hD)]; exact e.frzs a o u q
  · have hne : a ≠ D := fun z => nin (z ▸ List.mem_of_getElem? e1)
    have ho := r.obj l a o e1 e2
    have k : upd H D (.lst ws) a = H a := upd_ne hne
    cases o with
    | lst xs => obtain ⟨vs, q, r⟩ := ho; exact ⟨vs, k.trans q, RpL.upW eb _ _ r⟩
    | dct xs => obtain ⟨vs, q, r⟩ := ho; exact ⟨vs, k.trans q, RpF.upW eb r⟩
    | ins C fs => obtain ⟨Ca, dx, ws, m, q, r⟩ := ho; exact ⟨Ca, dx, ws, m, k.trans q, RpF.upW eb r⟩
/-- the list at D becomes ours -/
theorem Dl.adopt {ι1 ι : List Addr} {H1 H : Hp} {S : Sto} {D : Addr} {acc : List PV} (hD : H1 D = none) (e : Ext ι1 H1 ι H) (r : RSt X.K X.mg ι H S) (d : Dl X.K ι H D acc) :
    Ext ι1 H1 (ι ++ [D]) H ∧ RSt X.K X.mg (ι ++ [D]) H (S ++ [.lst acc]) ∧ Rp X.K (ι ++ [D]) H (.loc S.length) (.ref D) := by
  have pre : ∀ (l : Nat) (a : Addr), ι[l]? = some a → (ι ++ [D])[l]? = some a := fun l a h => by
    rw [List.getElem?_append_left (List.getElem?_eq_some_iff.mp h).1]; exact h
  have eb : ExtW ι H (ι ++ [D]) H := ⟨pre, fun _ _ h => h, fun _ _ _ h => h⟩
  obtain ⟨vs, h1, h2⟩ := d.obj
  refine ⟨⟨fun l a h => pre l a (e.pre l a h), e.fr, fun a m => ?_, e.tups, e.frzs⟩, ⟨by simp [r.len], List.nodup_append.mpr ⟨r.nd, by simp, fun x hx y hy => by simp at hy; subst hy; exact fun z => d.nin (z ▸ hx)⟩, fun l' a' o' e1 e2 => ?_⟩, D, rfl, by rw [← r.len]; simp⟩
  · rcases List.mem_append.mp m with q | q
    · exact e.new a q
    · have : a = D := by simpa using q
      subst this; exact .inr hD
  · by_cases hl : l' < ι.length
    · rw [List.getElem?_append_left hl] at e1
      rw [List.getElem?_append_left (by rw [← r.len]; exact hl)] at e2
      have ho := r.obj l' a' o' e1 e2
      cases o' with
      | lst xs => obtain ⟨vs, q, r⟩ := ho; exact ⟨vs, q, RpL.upW eb _ _ r⟩
      | dct xs => obtain ⟨vs, q, r⟩ := ho; exact ⟨vs, q, RpF.upW eb r⟩
      | ins C fs => obtain ⟨Ca, dx, ws, m, q, r⟩ := ho; exact ⟨Ca, dx, ws, m, q, RpF.upW eb r⟩
    · rw [List.getElem?_append_right (by omega)] at e1
      rw [List.getElem?_append_right (by rw [← r.len]; omega)] at e2
      have h0 : l' - ι.length = 0 := by
        have := (List.getElem?_eq_some_iff.mp e1).1
        simp at this; omega
      have h0' : l' - S.length = 0 := by rw [← r.len]; exact h0
      rw [h0] at e1; rw [h0'] at e2
      simp at e1 e2
      subst e1; subst e2
      exact ⟨vs, h1, RpL.upW eb _ _ h2⟩
theorem lc_read {m : EM Wk} {g : GM} {sl : List Nat} {tt : EM Bool} {el : EM PV} {vs : List Nat} (hsl : ∀ i ∈ sl, i ∈ vs) (σ : L2.St) (H : Hp) (Q : VK) (h : gE X W (rV X) (compM m g tt el vs) σ H Q) :
    tLc (gE X W (ItOk X) m) (gG X g sl) (gE X W0 rB tt) (gE X W0 (rV X) el) vs σ H Q := by
  obtain ⟨ι, τ, S, r, ρ, pk⟩ := h
  refine ⟨ι, τ, S, r, ρ, pk.next.mono ?_⟩
  rintro J H1 ⟨t, ι1, S1, e1, r1, q1, pk1⟩
  intro D hD
  have ρ1 := (ρ.up e1).wipe vs
  obtain ⟨E0, r0⟩ := r1.tup (ho := .lst []) hD
  have nD : D ∉ ι1 := fun hm => by
    obtain ⟨l0, o0, _, _, h3⟩ := r1.mem hm
    exact h3.mut.2.1 hD
  refine ⟨fun i n H => ∃ ι S acc, Ext ι1 H1 ι H ∧ RSt X.K X.mg ι H S ∧ REn X.K ι H (wipeE τ vs) (wipe σ vs) ∧ Dl X.K ι H D acc ∧ n = t.items.length - i ∧ i ≤ t.items.length ∧
      Pk X W (rV X) σ Q ι1 H1 (newL (accL t g (stepE tt el) acc (t.items.drop i) (wipeE τ vs) S)),
    ⟨t.items.length, ι1, S1, [], E0, r0, ρ1.up E0, ⟨nD, [], upd_same, rfl⟩, by simp, Nat.zero_le _, by rw [List.drop_zero]; exact pk1⟩, ?_⟩
  rintro i n H2 ⟨ι2, S2, acc, e2, r2, ρ2, d2, hn, hle, pk2⟩
  by_cases hlt : i < t.items.length
  · obtain ⟨p, hp⟩ := get_len hlt
    rw [drop_of_get hp] at pk2
    unfold accL at pk2
    split at pk2
    · rename_i ok
      obtain ⟨go, step⟩ := (q1 i ι2 H2 S2 e2.w r2 ok).1 hlt
      cases hgp : g p (wipeE τ vs) with
      | none => rw [hgp] at pk2; exact pk2.elim
      | some τ3 =>
        rw [hgp] at pk2
        refine .inr ⟨go, fun H' => ∃ ι S acc, Ext ι1 H1 ι H' ∧ RSt X.K X.mg ι H' S ∧ REn X.K ι H' (wipeE τ vs) (wipe σ vs) ∧ Dl X.K ι H' D acc ∧ Pk X W (rV X) σ Q ι1 H1 (newL (accL t g (stepE tt el) acc (t.items.drop (i + 1)) (wipeE τ vs) S)),
          fun H' ⟨ι', S', acc', e', r', ρ', d', pk'⟩ => ⟨n - 1, by omega, ι', S', acc', e', r', ρ', d', by omega, by omega, pk'⟩, fun x H3 hy => ?_⟩
        obtain ⟨p', hp', E3, r3, rv3⟩ := step x H3 hy
        rw [hp] at hp'; cases hp'
        refine ⟨ι2, wipeE τ vs, S2, p, τ3, r3, ρ2.up E3, rv3, hgp, fun σ3 ρ3 c3 => ⟨c3 vs hsl |>.trans (by rw [wipe_wipe]), ι2, τ3, S2, r3, ρ3, ?_⟩⟩
        cases ht : tt τ3 S2 with
        | bad => simp only [stepE, ht, noEr_bad, bnd_bad, newL] at pk2; exact pk2.elim
        | er c p S' => simp only [stepE, ht, noEr_er, bnd_bad, newL] at pk2; exact pk2.elim
        | ok k S4 =>
          show ∀ ι' H' x, Ext ι2 H3 ι' H' → RSt X.K X.mg ι' H' S4 → k = x → _
          rintro ι4 H4 k' E4 r4 rfl
          simp only [stepE, ht, noEr_ok, bnd_ok] at pk2
          cases k with
          | false =>
            rw [if_neg Bool.false_ne_true] at pk2 ⊢
            exact ⟨ι4, S4, acc, (e2.trans E3).trans E4, r4, (ρ2.up E3).up E4, (d2.up E3).up E4, pk2⟩
          | true =>
            rw [if_pos rfl] at pk2 ⊢
            refine ⟨ι4, τ3, S4, r4, ρ3.up E4, ?_⟩
            cases hel : el τ3 S4 with
            | bad => simp only [hel, noEr_bad, bnd_bad, newL] at pk2; exact pk2.elim
            | er c p S' => simp only [hel, noEr_er, bnd_bad, newL] at pk2; exact pk2.elim
            | ok y S5 =>
              show ∀ ι' H' x, Ext ι4 H4 ι' H' → RSt X.K X.mg ι' H' S5 → Rp X.K ι' H' y x → _
              intro ι5 H5 yv E5 r5 q5
              simp only [hel, noEr_ok, bnd_ok] at pk2
              split at pk2
              · rename_i hacc
                have d5 := ((d2.up E3).up E4).up E5
                obtain ⟨ws, h1, h2⟩ := d5.obj
                obtain ⟨E6, r6, d6, b6⟩ := Dl.write (acc := acc ++ [y]) (ws := ws ++ [yv]) hD (((e2.trans E3).trans E4).trans E5) r5 d5.nin h1 (h2.app (RpL.one q5))
                refine ⟨ws, h1, by rw [← h2.length, sizeLine_eq]; exact hacc, ι5, S5, acc ++ [y], E6, r6, REn.upW b6 (((ρ2.up E3).up E4).up E5), d6, pk2⟩
              · exact pk2.elim
    · exact pk2.elim
  · have hi' : i = t.items.length := by omega
    rw [hi', List.drop_length] at pk2
    unfold accL at pk2
    split at pk2
    · rename_i ok
      obtain ⟨E, r', q'⟩ := Dl.adopt hD e2 r2 d2
      exact .inl ⟨(q1 i ι2 H2 S2 e2.w r2 ok).2 (by omega), pk2 _ _ _ E r' q'⟩
    · exact pk2.elim
end
end PL
/-! PLI: comprehensions as rules, two fors, dicts. -/
namespace PL
open PySem PySem.Spec PyProof.Rows L2
section
variable {X : Cx} {W : WX} {a b c e o tg iter : Expr} {es rest : List Expr} {ma mb mc mo : EM PV} {tA tB' : EM Bool} {mas : EM (List PV)} {pos apos cpos p2 : Pos}
theorem re_lc {elt : Expr} {ifs : List Expr} {scope : Scope} {own : List (Str × Nat)} {m : EM Wk} {g : GM} {sl : List Nat} {tt : EM Bool} {el : EM PV} (hc : X.calm = true) (hN : X.N.Nodup) (hi : RI X W tg iter m) (ok : BlkOk X.N X.env.scope scope own)
    (hg : ∀ (s : Shared) (H : Hp) (C : Addr) (cl : List (Str × Addr)) (fp : List Addr), RG (X.blk s H scope (compEnvC scope cl C X.env) fp) tg g sl) (ht : ∀ (s : Shared) (H : Hp) (C : Addr) (cl : List (Str × Addr)) (fp : List Addr), RTs (X.blk s H scope (compEnvC scope cl C X.env) fp) W0 ifs tt)
    (he : ∀ (s : Shared) (H : Hp) (C : Addr) (cl : List (Str × Addr)) (fp : List Addr), RE (X.blk s H scope (compEnvC scope cl C X.env) fp) W0 elt el) (hsl : ∀ i ∈ sl, i ∈ own.map (·.2)) (hs : ∀ x, foldedSetIterable iter X.env x = pure x := by intro _; rfl) :
    RE X W (.ListComp elt [⟨tg, iter, ifs, 0⟩] scope pos) (compM m g tt el (own.map (·.2))) :=
  ⟨pe_weak (pe_lc hc hN hi.pi ok (fun s H C cl fp => (hg s H C cl fp).pg) (fun s H C cl fp => (ht s H C cl fp).pts) (fun s H C cl fp => (he s H C cl fp).pe) hs) fun σ H Q h => lc_read hsl σ H Q h⟩
/-- name = [..] on one line -/
theorem rs_setLc (i : Nat) {y : Str} {py spos : Pos} {elt : Expr} {ifs : List Expr} {scope : Scope} {own : List (Str × Nat)} {m : EM Wk} {g : GM} {sl : List Nat} {tt : EM Bool} {el : EM PV} (hc : X.calm = true) (hN : X.N.Nodup) (hy : X.N[i]? = some y) (hyl : X.env.scope.names.lookup y = some .local)
    (hsw : swapsWith (.ListComp elt [⟨tg, iter, ifs, 0⟩] scope pos) (some (.Name y py)) spos.line X.env = pure true) (hi : RI X W tg iter m) (ok : BlkOk X.N X.env.scope scope own)
    (hg : ∀ (s : Shared) (H : Hp) (C : Addr) (cl : List (Str × Addr)) (fp : List Addr), RG (X.blk s H scope (compEnvC scope cl C X.env) fp) tg g sl) (ht : ∀ (s : Shared) (H : Hp) (C : Addr) (cl : List (Str × Addr)) (fp : List Addr), RTs (X.blk s H scope (compEnvC scope cl C X.env) fp) W0 ifs tt)
    (he : ∀ (s : Shared) (H : Hp) (C : Addr) (cl : List (Str × Addr)) (fp : List Addr), RE (X.blk s H scope (compEnvC scope cl C X.env) fp) W0 elt el) (hsl : ∀ i ∈ sl, i ∈ own.map (·.2)) (hs : ∀ x, foldedSetIterable iter X.env x = pure x := by intro _; rfl) :
    RS X W (.Assign [.Name y py] (.ListComp elt [⟨tg, iter, ifs, 0⟩] scope pos) spos) (asgS (compM m g tt el (own.map (·.2))) (gN i)) :=
  ⟨ps_weak (ps_setLc hc hN hy hyl hsw hi.pi ok (fun s H C cl fp => (hg s H C cl fp).pg) (fun s H C cl fp => (ht s H C cl fp).pts) (fun s H C cl fp => (he s H C cl fp).pe) hs) fun D σ H h => by
    obtain ⟨ι, τ, S, r, ρ, pk⟩ := h
    exact lc_read hsl σ H _ ⟨ι, τ, S, r, ρ, (PkS.next (R := rV X) ρ pk).mono fun x H1 ⟨p, ι1, S1, e1, r1, q1, pk1⟩ => pk1 ι1 H1 _ .refl r1 ((ρ.up e1).set i q1)⟩⟩
noncomputable def stepI (tt : EM Bool) (m1 : EM Wk) (g1 : GM) (tt1 : EM Bool) (el : EM PV) (vs1 : List Nat) : List PV → En → Sto → Out (List PV) := fun acc τ S => bnd (noEr (tt τ S)) fun k S1 =>
  if k = true then bnd (noEr (m1 τ S1)) fun t1 S2 => accL t1 g1 (stepE tt1 el) acc t1.items (wipeE τ vs1) S2 else .ok acc S1
noncomputable def comp2M (m : EM Wk) (g : GM) (tt : EM Bool) (m1 : EM Wk) (g1 : GM) (tt1 : EM Bool) (el : EM PV) (vs vs1 : List Nat) : EM PV := fun τ S => bnd (m τ S) fun t S1 => newL (accL t g (stepI tt m1 g1 tt1 el vs1) [] t.items (wipeE τ vs) S1)
theorem lc2_read {m m1 : EM Wk} {g g1 : GM} {sl sl1 : List Nat} {tt tt1 : EM Bool} {el : EM PV} {vs vs1 : List Nat} (hsl : ∀ i ∈ sl, i ∈ vs) (hsl1 : ∀ i ∈ sl1, i ∈ vs1) (σ : L2.St) (H : Hp) (Q : VK) (h : gE X W (rV X) (comp2M m g tt m1 g1 tt1 el vs vs1) σ H Q) :
    tLc2 (gE X W (ItOk X) m) (gG X g sl) (gE X W0 rB tt) (gE X W0 (ItOk X) m1) (gG X g1 sl1) (gE X W0 rB tt1) (gE X W0 (rV X) el) vs vs1 σ H Q := by
  obtain ⟨ι, τ, S, r, ρ, pk⟩ := h
  refine ⟨ι, τ, S, r, ρ, pk.next.mono ?_⟩
  rintro J H1 ⟨t, ι1, S1, e1, r1, q1, pk1⟩
  intro D hD
  have ρ1 := (ρ.up e1).wipe vs
  obtain ⟨E0, r0⟩ := r1.tup (ho := .lst []) hD
  have nD : D ∉ ι1 := fun hm => by
    obtain ⟨l0, o0, _, _, h3⟩ := r1.mem hm
    exact h3.mut.2.1 hD
  refine ⟨fun i n H => ∃ ι S acc, Ext ι1 H1 ι H ∧ RSt X.K X.mg ι H S ∧ REn X.K ι H (wipeE τ vs) (wipe σ vs) ∧ Dl X.K ι H D acc ∧ n = t.items.length - i ∧ i ≤ t.items.length ∧
      Pk X W (rV X) σ Q ι1 H1 (newL (accL t g (stepI tt m1 g1 tt1 el vs1) acc (t.items.drop i) (wipeE τ vs) S)),
    ⟨t.items.length, ι1, S1, [], E0, r0, ρ1.up E0, ⟨nD, [], upd_same, rfl⟩, by simp, Nat.zero_le _, by rw [List.drop_zero]; exact pk1⟩, ?_⟩
  rintro i n H2 ⟨ι2, S2, acc, e2, r2, ρ2, d2, hn, hle, pk2⟩
  by_cases hlt : i < t.items.length
  · obtain ⟨p, hp⟩ := get_len hlt
    rw [drop_of_get hp] at pk2
    unfold accL at pk2
    split at pk2
    · rename_i ok
      obtain ⟨go, step⟩ := (q1 i ι2 H2 S2 e2.w r2 ok).1 hlt
      cases hgp : g p (wipeE τ vs) with
      | none => rw [hgp] at pk2; exact pk2.elim
      | some τ3 =>
        rw [hgp] at pk2
        refine .inr ⟨go, fun H' => ∃ ι S acc, Ext ι1 H1 ι H' ∧ RSt X.K X.mg ι H' S ∧ REn X.K ι H' (wipeE τ vs) (wipe σ vs) ∧ Dl X.K ι H' D acc ∧ Pk X W (rV X) σ Q ι1 H1 (newL (accL t g (stepI tt m1 g1 tt1 el vs1) acc (t.items.drop (i + 1)) (wipeE τ vs) S)),
          fun H' ⟨ι', S', acc', e', r', ρ', d', pk'⟩ => ⟨n - 1, by omega, ι', S', acc', e', r', ρ', d', by omega, by omega, pk'⟩, fun x H3 hy => ?_⟩
        obtain ⟨p', hp', E3, r3, rv3⟩ := step x H3 hy
        rw [hp] at hp'; cases hp'
        refine ⟨ι2, wipeE τ vs, S2, p, τ3, r3, ρ2.up E3, rv3, hgp, fun σ3 ρ3 c3 => ⟨c3 vs hsl |>.trans (by rw [wipe_wipe]), ι2, τ3, S2, r3, ρ3, ?_⟩⟩
        cases ht : tt τ3 S2 with
        | bad => simp only [stepI, ht, noEr_bad, bnd_bad, newL] at pk2; exact pk2.elim
        | er c p S' => simp only [stepI, ht, noEr_er, bnd_bad, newL] at pk2; exact pk2.elim
        | ok k S4 =>
          show ∀ ι' H' x, Ext ι2 H3 ι' H' → RSt X.K X.mg ι' H' S4 → k = x → _
          rintro ι4 H4 k' E4 r4 rfl
          simp only [stepI, ht, noEr_ok, bnd_ok] at pk2
          cases k with
          | false =>
            rw [if_neg Bool.false_ne_true] at pk2 ⊢
            exact ⟨ι4, S4, acc, (e2.trans E3).trans E4, r4, (ρ2.up E3).up E4, (d2.up E3).up E4, pk2⟩
          | true =>
            rw [if_pos rfl] at pk2 ⊢
            refine ⟨ι4, τ3, S4, r4, ρ3.up E4, ?_⟩
            cases hm1 : m1 τ3 S4 with
            | bad => simp only [hm1, noEr_bad, bnd_bad, newL] at pk2; exact pk2.elim
            | er c p S' => simp only [hm1, noEr_er, bnd_bad, newL] at pk2; exact pk2.elim
            | ok t1 S5 =>
              show ∀ ι' H' x, Ext ι4 H4 ι' H' → RSt X.K X.mg ι' H' S5 → ItOk X ι' H' t1 x → _
              intro ι5 H5 J1 E5 r5 q5
              simp only [hm1, noEr_ok, bnd_ok] at pk2
              have ρ5 := (((ρ3.up E4).up E5)).wipe vs1
              have ρo := ((ρ2.up E3).up E4).up E5
              have d5 := ((d2.up E3).up E4).up E5
              have e5 := ((e2.trans E3).trans E4).trans E5
              refine ⟨fun j l H => ∃ ι S acc, Ext ι1 H1 ι H ∧ ExtW ι5 H5 ι H ∧ RSt X.K X.mg ι H S ∧ REn X.K ι H (wipeE τ vs) (wipe σ vs) ∧ REn X.K ι H (wipeE τ3 vs1) (wipe σ3 vs1) ∧ Dl X.K ι H D acc ∧ l = t1.items.length - j ∧ j ≤ t1.items.length ∧
                  Pk X W (rV X) σ Q ι1 H1 (newL (bnd (accL t1 g1 (stepE tt1 el) acc (t1.items.drop j) (wipeE τ3 vs1) S) fun acc' S1 => accL t g (stepI tt m1 g1 tt1 el vs1) acc' (t.items.drop (i + 1)) (wipeE τ vs) S1)),
                ⟨t1.items.length, ι5, S5, acc, e5, .refl, r5, ρo, ρ5, d5, by simp, Nat.zero_le _, by rw [List.drop_zero]; exact pk2⟩, ?_⟩
              rintro j l H6 ⟨ι6, S6, acc6, e6, b6, r6, ρo6, ρ6, d6, hl6, hle6, pk6⟩
              by_cases hlt6 : j < t1.items.length
              · obtain ⟨p6, hp6⟩ := get_len hlt6
                rw [drop_of_get hp6, accL_cons] at pk6
                split at pk6
                · rename_i ok6
                  obtain ⟨go6, step6⟩ := (q5 j ι6 H6 S6 b6 r6 ok6).1 hlt6
                  cases hgp6 : g1 p6 (wipeE τ3 vs1) with
                  | none => rw [hgp6] at pk6; exact pk6.elim
                  | some τ7 =>
                    rw [hgp6] at pk6
                    refine .inr ⟨go6, fun H' => ∃ ι S acc, Ext ι1 H1 ι H' ∧ ExtW ι5 H5 ι H' ∧ RSt X.K X.mg ι H' S ∧ REn X.K ι H' (wipeE τ vs) (wipe σ vs) ∧ REn X.K ι H' (wipeE τ3 vs1) (wipe σ3 vs1) ∧ Dl X.K ι H' D acc ∧
                        Pk X W (rV X) σ Q ι1 H1 (newL (bnd (accL t1 g1 (stepE tt1 el) acc (t1.items.drop (j + 1)) (wipeE τ3 vs1) S) fun acc' S1 => accL t g (stepI tt m1 g1 tt1 el vs1) acc' (t.items.drop (i + 1)) (wipeE τ vs) S1)),
                      fun H' ⟨ι', S', acc', e', b', r', ρo', ρ', d', pk'⟩ => ⟨l - 1, by omega, ι', S', acc', e', b', r', ρo', ρ', d', by omega, by omega, pk'⟩, fun x H7 hy => ?_⟩
                    obtain ⟨p', hp', E7, r7, rv7⟩ := step6 x H7 hy
                    rw [hp6] at hp'; cases hp'
                    refine ⟨ι6, wipeE τ3 vs1, S6, p6, τ7, r7, ρ6.up E7, rv7, hgp6, fun σ7 ρ7 c7 => ⟨c7 vs1 hsl1 |>.trans (by rw [wipe_wipe]), ι6, τ7, S6, r7, ρ7, ?_⟩⟩
                    cases ht7 : tt1 τ7 S6 with
                    | bad => simp only [stepE, ht7, noEr_bad, bnd_bad, newL] at pk6; exact pk6.elim
                    | er c p S' => simp only [stepE, ht7, noEr_er, bnd_bad, newL] at pk6; exact pk6.elim
                    | ok k S8 =>
                      show ∀ ι' H' x, Ext ι6 H7 ι' H' → RSt X.K X.mg ι' H' S8 → k = x → _
                      rintro ι8 H8 k' E8 r8 rfl
                      simp only [stepE, ht7, noEr_ok, bnd_ok] at pk6
                      cases k with
                      | false =>
                        rw [if_neg Bool.false_ne_true] at pk6 ⊢
                        exact ⟨ι8, S8, acc6, (e6.trans E7).trans E8, (b6.trans E7.w).trans E8.w, r8, (ρo6.up E7).up E8, (ρ6.up E7).up E8, (d6.up E7).up E8, pk6⟩
                      | true =>
                        rw [if_pos rfl] at pk6 ⊢
                        refine ⟨ι8, τ7, S8, r8, ρ7.up E8, ?_⟩
                        cases hel : el τ7 S8 with
                        | bad => simp only [hel, noEr_bad, bnd_bad, newL] at pk6; exact pk6.elim
                        | er c p S' => simp only [hel, noEr_er, bnd_bad, newL] at pk6; exact pk6.elim
                        | ok y S9 =>
                          show ∀ ι' H' x, Ext ι8 H8 ι' H' → RSt X.K X.mg ι' H' S9 → Rp X.K ι' H' y x → _
                          intro ι9 H9 yv E9 r9 q9
                          simp only [hel, noEr_ok, bnd_ok] at pk6
                          split at pk6
                          · rename_i hacc
                            have d9 := ((d6.up E7).up E8).up E9
                            obtain ⟨ws, h1, h2⟩ := d9.obj
                            obtain ⟨E10, r10, d10, b10⟩ := Dl.write (acc := acc6 ++ [y]) (ws := ws ++ [yv]) hD (((e6.trans E7).trans E8).trans E9) r9 d9.nin h1 (h2.app (RpL.one q9))
                            exact ⟨ws, h1, by rw [← h2.length, sizeLine_eq]; exact hacc, ι9, S9, acc6 ++ [y], E10, (((b6.trans E7.w).trans E8.w).trans E9.w).trans b10, r10, REn.upW b10 (((ρo6.up E7).up E8).up E9), REn.upW b10 (((ρ6.up E7).up E8).up E9), d10, pk6⟩
                          · exact pk6.elim
                · exact pk6.elim
              · have hi' : j = t1.items.length := by omega
                rw [hi', List.drop_length, accL_nil] at pk6
                split at pk6
                · rename_i ok6
                  exact .inl ⟨(q5 j ι6 H6 S6 b6 r6 ok6).2 (by omega), ι6, S6, acc6, e6, r6, ρo6, d6, pk6⟩
                · exact pk6.elim
    · exact pk2.elim
  · have hi' : i = t.items.length := by omega
    rw [hi', List.drop_length] at pk2
    unfold accL at pk2
    split at pk2
    · rename_i ok
      obtain ⟨E, r', q'⟩ := Dl.adopt hD e2 r2 d2
      exact .inl ⟨(q1 i ι2 H2 S2 e2.w r2 ok).2 (by omega), pk2 _ _ _ E r' q'⟩
    · exact pk2.elim
theorem re_lc2 {elt tg1 iter1 : Expr} {ifs ifs1 : List Expr} {scope : Scope} {own : List (Str × Nat)} {vs1 : List Nat} {m m1 : EM Wk} {g g1 : GM} {sl sl1 : List Nat} {tt tt1 : EM Bool} {el : EM PV} (hc : X.calm = true) (hN : X.N.Nodup) (hi : RI X W tg iter m) (ok : BlkOk X.N X.env.scope scope own) (hv : ∀ i ∈ vs1, i ∈ own.map (·.2))
    (hg : ∀ (s : Shared) (H : Hp) (C : Addr) (cl : List (Str × Addr)) (fp : List Addr), RG (X.blk s H scope (compEnvC scope cl C X.env) fp) tg g sl) (ht : ∀ (s : Shared) (H : Hp) (C : Addr) (cl : List (Str × Addr)) (fp : List Addr), RTs (X.blk s H scope (compEnvC scope cl C X.env) fp) W0 ifs tt)
    (hi1 : ∀ (s : Shared) (H : Hp) (C : Addr) (cl : List (Str × Addr)) (fp : List Addr), RI (X.blk s H scope (compEnvC scope cl C X.env) fp) W0 tg1 iter1 m1)
    (hg1 : ∀ (s : Shared) (H : Hp) (C : Addr) (cl : List (Str × Addr)) (fp : List Addr), RG (X.blk s H scope (compEnvC scope cl C X.env) fp) tg1 g1 sl1) (ht1 : ∀ (s : Shared) (H : Hp) (C : Addr) (cl : List (Str × Addr)) (fp : List Addr), RTs (X.blk s H scope (compEnvC scope cl C X.env) fp) W0 ifs1 tt1)
    (he : ∀ (s : Shared) (H : Hp) (C : Addr) (cl : List (Str × Addr)) (fp : List Addr), RE (X.blk s H scope (compEnvC scope cl C X.env) fp) W0 elt el) (hsl : ∀ i ∈ sl, i ∈ own.map (·.2)) (hsl1 : ∀ i ∈ sl1, i ∈ vs1) (hs : ∀ x, foldedSetIterable iter X.env x = pure x := by intro _; rfl) (hs1 : ∀ env x, foldedSetIterable iter1 env x = pure x := by intro _ _; rfl) :
    RE X W (.ListComp elt [⟨tg, iter, ifs, 0⟩, ⟨tg1, iter1, ifs1, 0⟩] scope pos) (comp2M m g tt m1 g1 tt1 el (own.map (·.2)) vs1) :=
  ⟨pe_weak (pe_lc2 hc hN hi.pi ok hv (fun s H C cl fp => (hg s H C cl fp).pg) (fun s H C cl fp => (ht s H C cl fp).pts) (fun s H C cl fp => (hi1 s H C cl fp).pi) (fun s H C cl fp => (hg1 s H C cl fp).pg) (fun s H C cl fp => (ht1 s H C cl fp).pts) (fun s H C cl fp => (he s H C cl fp).pe) hs hs1)
    fun σ H Q h => lc2_read hsl hsl1 σ H Q h⟩
end
end PL
/-! PLJ: dicts, own classes, raise, try. -/
namespace PL
open PySem PySem.Spec PyProof.Rows L2
section
variable {X : Cx} {W : WX} {a b c e o f tg iter : Expr} {es rest : List Expr} {ma mb mc mo mf : EM PV} {tA tB' : EM Bool} {mas : EM (List PV)} {pos apos cpos p2 : Pos}
/-! ### dicts -/
def dictM : EM PV := fun _ S => .ok (.loc S.length) (S ++ [.dct []])
theorem RSt.new_dct {K : PySem.W.Frag} {mg : Str → Option Value} {ι : List Addr} {H : Hp} {S : Sto} (r : RSt K mg ι H S) {p : Addr} (hp : H p = none) {xs : List (Key × PV)} {vs : List (Key × V)} (h : RpF K ι H xs vs) : Ext ι H (ι ++ [p]) (upd H p (.dK vs)) ∧ RSt K mg (ι ++ [p]) (upd H p (.dK vs)) (S ++ [.dct xs]) ∧ Rp K (ι ++ [p]) (upd H p (.dK vs)) (.loc S.length) (.ref p) := by
  have E : Ext ι H (ι ++ [p]) (upd H p (.dK vs)) := .alloc hp
  exact ⟨E, r.alloc hp (fun _ _ _ _ => trivial) E ⟨vs, upd_same, h.up E⟩, p, rfl, by rw [← r.len]; simp⟩
theorem re_dict0 : RE X W (.Dict [] [] pos) dictM := ⟨pe_weak pe_dnewK fun σ H Q ⟨ι, τ, S, r, ρ, pk⟩ p hp => by
  obtain ⟨E, r2, q2⟩ := r.new_dct hp (xs := []) (vs := []) rfl
  exact pk _ _ _ E r2 q2⟩
def isDct (p : PV) (S : Sto) : Bool := match p with
  | .loc l => (match S[l]? with | some (.dct _) => true | _ => false)
  | _ => false
theorem isDct_rp {ι : List Addr} {H : Hp} {S : Sto} {p : PV} {x : V} (rs : RSt X.K X.mg ι H S) (rp : Rp X.K ι H p x) (h : isDct p S = true) : ∃ a, x = .ref a ∧ IsD H a := by
  unfold isDct at h
  split at h
  · split at h
    · rename_i eS
      obtain ⟨a, rfl, h1⟩ := rp
      obtain ⟨vs, h2, h3⟩ := rs.obj _ a _ h1 eS
      exact ⟨a, rfl, .inl ⟨vs, .inl h2⟩⟩
    · cases h
  · cases h
/-- d.setdefault(k, x) -/
def setdefP (d k x : PV) (S : Sto) : Option (PV × Sto) := match d with
  | .loc l => match S[l]?, keyP k with
    | some (.dct kvs), some kk => if kvs.length < 16777216 then (match valP kvs kk with | some v => some (v, S) | none => some (x, S.set l (.dct (putP kvs kk x)))) else none
    | _, _ => none
  | _ => none
def m2M (f : PV → PV → PV → Sto → Option (PV × Sto)) (mo ma mb : EM PV) : EM PV := fun τ S => bnd (mo τ S) fun d S1 => if isDct d S1 = true then bnd (ma τ S1) fun k S2 => bnd (mb τ S2) fun x S3 => lift (f d k x S3) else .bad
def m1M (f : PV → PV → Sto → Option (PV × Sto)) (mo ma : EM PV) : EM PV := fun τ S => bnd (mo τ S) fun d S1 => if isDct d S1 = true then bnd (ma τ S1) fun k S2 => lift (f d k S2) else .bad
theorem re_setdef (ho : RE X W o mo) (he : RE X W e ma) (hf : RE X W f mf) (m : M2 X o "setdefault" apos e f cpos) : RE X W (.Call (.Attribute o "setdefault" apos) [e, f] [] cpos) (m2M setdefP mo ma mf) := by
  refine ⟨pe_weak (pe_dsetd ho.pe he.pe hf.pe m) fun σ H Q ⟨ι, τ, S, r, ρ, pk⟩ => ⟨ι, τ, S, r, ρ, pk.next.mono fun x H1 ⟨p, ι1, S1, e1, r1, q1, pk1⟩ => ?_⟩⟩
  split at pk1
  · rename_i hd
    obtain ⟨aD, rfl, hD⟩ := isDct_rp r1 q1 hd
    refine ⟨aD, rfl, hD, ι1, τ, S1, r1, ρ.up e1, pk1.next.mono fun y H2 ⟨k, ι2, S2, e2, r2, q2, pk2⟩ => ⟨ι2, τ, S2, r2, (ρ.up e1).up e2, pk2.next.mono fun z H3 ⟨w, ι3, S3, e3, r3, q3, pk3⟩ => ?_⟩⟩
    obtain ⟨v, S', hf, kk⟩ := pk_lift pk3
    unfold setdefP at hf
    split at hf
    · split at hf
      · rename_i l _ _ kvs kx eS ek
        split at hf
        · rename_i hl
          obtain ⟨a, ea, h1⟩ := (q1.up e2).up e3
          cases ea
          obtain ⟨ws, h2, h3⟩ := r3.obj _ aD _ h1 eS
          cases key_rp (q2.up e3) ek
          obtain ⟨i1, i2⟩ := RpF.val (k := kx) h3
          refine ⟨ws, kx, h2, rfl, by rw [← h3.length, sizeLine_eq]; exact hl, fun v' hv => ?_, fun hv => ?_⟩
          · split at hf
            · rename_i v0 e0
              cases hf
              obtain ⟨v1, e1', e2'⟩ := i1 _ e0
              rw [hv] at e1'; cases e1'
              exact kk _ _ _ .refl r3 e2'
            · rename_i e0
              rw [i2 e0] at hv; cases hv
          · split at hf
            · rename_i v0 e0
              obtain ⟨v1, e1', _⟩ := i1 _ e0
              rw [hv] at e1'; cases e1'
            · cases hf
              obtain ⟨E, r4⟩ := r3.wdct h1 (h3.put q3)
              exact kk _ _ _ E r4 (q3.up E)
        · cases hf
      · cases hf
    · cases hf
  · exact pk1.elim
/-- d.get(k), d.get(k, x) -/
def get1P (d k : PV) (S : Sto) : Option (PV × Sto) := match d with
  | .loc l => match S[l]?, keyP k with | some (.dct kvs), some kk => some ((valP kvs kk).getD .non, S) | _, _ => none
  | _ => none
def get2P (d k x : PV) (S : Sto) : Option (PV × Sto) := match d with
  | .loc l => match S[l]?, keyP k with | some (.dct kvs), some kk => some ((valP kvs kk).getD x, S) | _, _ => none
  | _ => none
theorem re_get1 (hu : X.A.units + 1 < cLine) (ho : RE X W o mo) (he : RE X W e ma) (m : M1 X o "get" apos e cpos) : RE X W (.Call (.Attribute o "get" apos) [e] [] cpos) (m1M get1P mo ma) := by
  refine ⟨pe_weak (pe_dget1 hu ho.pe he.pe m) fun σ H Q ⟨ι, τ, S, r, ρ, pk⟩ => ⟨ι, τ, S, r, ρ, pk.next.mono fun x H1 ⟨p, ι1, S1, e1, r1, q1, pk1⟩ => ?_⟩⟩
  split at pk1
  · rename_i hd
    obtain ⟨aD, rfl, hD⟩ := isDct_rp r1 q1 hd
    refine ⟨aD, rfl, hD, ι1, τ, S1, r1, ρ.up e1, pk1.next.mono fun y H2 ⟨k, ι2, S2, e2, r2, q2, pk2⟩ => ?_⟩
    obtain ⟨v, S', hf, kk⟩ := pk_lift pk2
    unfold get1P at hf
    split at hf
    · split at hf
      · rename_i kvs kx eS ek
        cases hf
        obtain ⟨a, ea, h1⟩ := q1.up e2
        cases ea
        obtain ⟨ws, h2, h3⟩ := r2.obj _ aD _ h1 eS
        cases key_rp q2 ek
        obtain ⟨i1, i2⟩ := RpF.val (k := kx) h3
        refine ⟨valV ws kx, DGet.k h2, ?_⟩
        cases hv : valP kvs kx with
        | none => rw [i2 hv]; exact kk _ _ _ .refl r2 (by rw [hv]; exact rfl)
        | some v0 =>
          obtain ⟨v1, e1', e2'⟩ := i1 _ hv
          rw [e1']
          exact kk _ _ _ .refl r2 (by rw [hv]; exact e2')
      · cases hf
    · cases hf
  · exact pk1.elim
theorem re_get2 (hu : X.A.units + 1 < cLine) (ho : RE X W o mo) (he : RE X W e ma) (hf : RE X W f mf) (m : M2 X o "get" apos e f cpos) : RE X W (.Call (.Attribute o "get" apos) [e, f] [] cpos) (m2M get2P mo ma mf) := by
  refine ⟨pe_weak (pe_dget2 hu ho.pe he.pe hf.pe m) fun σ H Q ⟨ι, τ, S, r, ρ, pk⟩ => ⟨ι, τ, S, r, ρ, pk.next.mono fun x H1 ⟨p, ι1, S1, e1, r1, q1, pk1⟩ => ?_⟩⟩
  split at pk1
  · rename_i hd
    obtain ⟨aD, rfl, hD⟩ := isDct_rp r1 q1 hd
    refine ⟨aD, rfl, hD, ι1, τ, S1, r1, ρ.up e1, pk1.next.mono fun y H2 ⟨k, ι2, S2, e2, r2, q2, pk2⟩ => ⟨ι2, τ, S2, r2, (ρ.up e1).up e2, pk2.next.mono fun z H3 ⟨w, ι3, S3, e3, r3, q3, pk3⟩ => ?_⟩⟩
    obtain ⟨v, S', hf, kk⟩ := pk_lift pk3
    unfold get2P at hf
    split at hf
    · split at hf
      · rename_i kvs kx eS ek
        cases hf
        obtain ⟨a, ea, h1⟩ := (q1.up e2).up e3
        cases ea
        obtain ⟨ws, h2, h3⟩ := r3.obj _ aD _ h1 eS
        cases key_rp (q2.up e3) ek
        obtain ⟨i1, i2⟩ := RpF.val (k := kx) h3
        refine ⟨valV ws kx, DGet.k h2, ?_⟩
        cases hv : valP kvs kx with
        | none => rw [i2 hv]; exact kk _ _ _ .refl r3 (by rw [hv]; exact q3)
        | some v0 =>
          obtain ⟨v1, e1', e2'⟩ := i1 _ hv
          rw [e1']
          exact kk _ _ _ .refl r3 (by rw [hv]; exact e2')
      · cases hf
    · cases hf
  · exact pk1.elim
/-! ### own classes: fields -/
def fldM (C f : Str) (m : EM PV) : EM PV := fun τ S => bnd (m τ S) fun p S1 => match p with
  | .loc l => match S1[l]? with
    | some (.ins C' fs) => if C' = C then (match fs.lookup f with | some v => .ok v S1 | none => .bad) else .bad
    | _ => .bad
  | _ => .bad
theorem re_fld {C f : Str} {Ca : Addr} (hm : X.mg C = some (.ref Ca)) (cl : Cls X.K Ca) (na : NoAttr X.K Ca f) (he : RE X W e ma) (hb : attributeBase e f X.env (eval e X.env) = eval e X.env := by rfl) : RE X W (.Attribute e f pos) (fldM C f ma) := by
  refine ⟨pe_weak (pe_fld he.pe hb) fun σ H Q ⟨ι, τ, S, r, ρ, pk⟩ => ⟨ι, τ, S, r, ρ, pk.next.mono fun x H1 ⟨p, ι1, S1, e1, r1, q1, pk1⟩ => ?_⟩⟩
  split at pk1
  · split at pk1
    · rename_i l _ C' fs eS
      split at pk1
      · rename_i hC
        subst hC
        split at pk1
        · rename_i v hv
          obtain ⟨a, rfl, h1⟩ := q1
          obtain ⟨Cb, dx, ws, h2, h3, h4⟩ := r1.obj _ a _ h1 eS
          rw [hm] at h2; cases h2
          obtain ⟨w, h5, h6⟩ := RpF.lookup h4 hv
          exact ⟨a, Ca, dx, ws, w, rfl, h3, cl, na, h5, pk1 _ _ _ .refl r1 h6⟩
        · exact pk1.elim
      · exact pk1.elim
    · exact pk1.elim
  · exact pk1.elim
def putG (f : Str) (v : PV) : List (Str × PV) → List (Str × PV)
  | [] => [(f, v)]
  | (g, x) :: r => if g = f then (g, v) :: r else (g, x) :: putG f v r
theorem RpF.putG {K : PySem.W.Frag} {ι : List Addr} {H : Hp} {f : Str} {y : PV} {z : V} (hy : Rp K ι H y z) : ∀ {fs : List (Str × PV)} {ws : List (Str × V)}, RpF K ι H fs ws → RpF K ι H (PL.putG f y fs) (L2.putF f z ws)
  | [], _, h => by cases (show _ = _ from h); exact ⟨z, [], rfl, hy, rfl⟩
  | (k, x) :: r, _, h => by
    obtain ⟨v, w, rfl, h1, h2⟩ := h
    unfold PL.putG L2.putF
    by_cases e : k = f
    · rw [if_pos e, if_pos e]; exact ⟨z, w, rfl, hy, h2⟩
    · rw [if_neg e, if_neg e]; exact ⟨v, _, rfl, h1, RpF.putG hy h2⟩
/-- o.f = e -/
def setfS (C f : Str) (m mo : EM PV) : SM := fun τ S => bndS (m τ S) τ fun v S1 => bndS (mo τ S1) τ fun p S2 => match p with
  | .loc l => match S2[l]? with
    | some (.ins C' fs) => if C' = C ∧ fs.length < 1000 then .nx τ (S2.set l (.ins C (putG f v fs))) else .bad
    | _ => .bad
  | _ => .bad
theorem rs_fld {C f : Str} {Ca : Addr} {p' : Pos} (hm : X.mg C = some (.ref Ca)) (cl : Cls X.K Ca) (na : NoAttr X.K Ca f) (ho : RE X W o mo) (he : RE X W e ma) (hs : swapsWith e (some (.Attribute o f p')) pos.line X.env = pure false := by rfl) : RS X W (.Assign [.Attribute o f p'] e pos) (setfS C f ma mo) := by
  refine ⟨ps_weak (ps_fld ho.pe he.pe hs) fun D σ H ⟨ι, τ, S, r, ρ, pk⟩ => ⟨ι, τ, S, r, ρ, (PkS.next (R := rV X) ρ pk).mono fun y H1 ⟨v, ι1, S1, e1, r1, q1, pk1⟩ => ⟨ι1, τ, S1, r1, ρ.up e1, (PkS.next (R := rV X) (ρ.up e1) pk1).mono fun x H2 ⟨p, ι2, S2, e2, r2, q2, pk2⟩ => ?_⟩⟩⟩
  split at pk2
  · split at pk2
    · rename_i l _ C' fs eS
      split at pk2
      · rename_i hC
        obtain ⟨hC, hl⟩ := hC
        subst hC
        obtain ⟨a, rfl, h1⟩ := q2
        obtain ⟨Cb, dx, ws, h2, h3, h4⟩ := r2.obj _ a _ h1 eS
        have hcb := h2
        rw [hm] at h2; cases h2
        obtain ⟨E, r3⟩ := r2.wins h1 hcb (h4.putG (f := f) (q1.up e2))
        exact ⟨a, Ca, dx, ws, rfl, h3, cl, na, by rw [← h4.length]; exact hl, pk2 _ _ _ E r3 (((ρ.up e1).up e2).up E)⟩
      · exact pk2.elim
    · exact pk2.elim
  · exact pk2.elim
/-! ### methods -/
def tMethW (C : Addr) (m : Str) (sp : Sp) (E : L2.St → XK) (ta : TE) (t : TA) : TE := fun σ H Q => ta σ H fun x H1 => ∃ a dx fs, x = .ref a ∧ H1 a = some (.ins C dx fs) ∧ fs.lookup m = none ∧
  t σ H1 fun vs H2 => sp (x :: vs) H2 Q (E σ)
theorem pe_methW {CX : CXT} {k : Nat} {C f : Addr} {fd : FuncData} {ps : List Str} {sp : Sp} {E : L2.St → XK} {m : Str} {ta : TE} {t : TA} {pl : Sem Bool} (he : PE X o ta) (c : Cls X.K C) (hm : Meth X.K C m f) (F : FnOk X.prog X.w X.K X.mg X.base CX k f fd ps sp) (hr : Room k X.A) (hb : Binds X.K fd ps []) (hx : ∀ σ, PassesAt CX X σ (E σ)) (ha : PA X (e :: es) t)
    (hst : starEach (e :: es) X.env = (false, eval e X.env) :: starEach es X.env := by rfl) (hpl : (backTo pos (starEach es X.env)).any (·.1) = false := by rfl)
    (ht : eval (.Call (.Attribute o m apos) (e :: es) [] pos) X.env = (do
      let ov ← eval o X.env
      standAt apos.atName
      let (f, first) ← holding [ov] (getMethod ov m pl)
      callWith pos f first (backTo pos (starEach (e :: es) X.env)) (backToKw pos (keywordEach [] X.env))) := by rfl) :
    PE X (.Call (.Attribute o m apos) (e :: es) [] pos) (tMethW C m sp E ta t) := by
  refine ⟨fun pins s σ H Q I h => ?_⟩
  refine PySem.W.methodCall_KW (pl := pl) (thn (he.run pins s σ H _ I h) fun u s1 ⟨x, H1, I1, rx, a, dx, fs, ex, ea, l, q⟩ => ?_) ht
  subst ex
  obtain rfl : u = Value.ref a := rx
  refine getmeth_ok I1 ea c hm l ?_
  refine PySem.W.callWith_K (first := [.ref a]) (h₀ := X.base) I.ok.mod.kin hm.kp (thn (ha.run pos pins s1 σ H1 _ I1 q) fun us s2 ⟨vs, H2, I2, r, q2⟩ => ⟨I2.kIn, ?_⟩) hst hpl
  exact run_fnS (us := .ref a :: us) (vs := .ref a :: vs) F hr hb (hx σ) I2 (.cons rfl r) q2
theorem pe_methW0 {CX : CXT} {k : Nat} {C f : Addr} {fd : FuncData} {ps : List Str} {sp : Sp} {E : L2.St → XK} {m : Str} {ta : TE} {pl : Sem Bool} (he : PE X o ta) (c : Cls X.K C) (hm : Meth X.K C m f) (F : FnOk X.prog X.w X.K X.mg X.base CX k f fd ps sp) (hr : Room k X.A) (hb : Binds X.K fd ps []) (hx : ∀ σ, PassesAt CX X σ (E σ))
    (ht : eval (.Call (.Attribute o m apos) [] [] pos) X.env = (do
      let ov ← eval o X.env
      standAt apos.atName
      let (f, first) ← holding [ov] (getMethod ov m pl)
      callWith pos f first (backTo pos (starEach [] X.env)) (backToKw pos (keywordEach [] X.env))) := by rfl) :
    PE X (.Call (.Attribute o m apos) [] [] pos) (tMethW C m sp E ta tNil) := by
  refine ⟨fun pins s σ H Q I h => ?_⟩
  refine PySem.W.methodCall_KW (pl := pl) (thn (he.run pins s σ H _ I h) fun u s1 ⟨x, H1, I1, rx, a, dx, fs, ex, ea, l, q⟩ => ?_) ht
  subst ex
  obtain rfl : u = Value.ref a := rx
  refine getmeth_ok I1 ea c hm l ?_
  exact PySem.W.callWith_K0 (first := [.ref a]) I1.kIn hm.kp (run_fnS (us := [.ref a]) (vs := [.ref a]) F hr hb (hx σ) I1 (.cons rfl .nil) q)
/-- o is an instance of C without an own attribute m -/
def isIns (C m : Str) (p : PV) (S : Sto) : Bool := match p with
  | .loc l => match S[l]? with | some (.ins C' fs) => decide (C' = C) && (fs.lookup m).isNone | _ => false
  | _ => false
def methM (C m : Str) (F : FM) (mo : EM PV) (ms : EM (List PV)) : EM PV := fun τ S => bnd (mo τ S) fun p S1 => if isIns C m p S1 = true then bnd (ms τ S1) fun ps S2 => F (p :: ps) S2 else .bad
theorem isIns_rp {C m : Str} {Ca : Addr} {ι : List Addr} {H : Hp} {S : Sto} {p : PV} {x : V} (hm : X.mg C = some (.ref Ca)) (rs : RSt X.K X.mg ι H S) (rp : Rp X.K ι H p x) (h : isIns C m p S = true) : ∃ a dx fs, x = .ref a ∧ H a = some (.ins Ca dx fs) ∧ fs.lookup m = none := by
  unfold isIns at h
  split at h
  · split at h
    · rename_i eS
      rw [Bool.and_eq_true] at h
      obtain ⟨a, rfl, h1⟩ := rp
      obtain ⟨Cb, dx, ws, h2, h3, h4⟩ := rs.obj _ a _ h1 eS
      have e := of_decide_eq_true h.1
      subst e
      rw [hm] at h2; cases h2
      exact ⟨a, dx, ws, rfl, h3, RpF.lookup_none h4 (Option.isNone_iff_eq_none.mp h.2)⟩
    · cases h
  · cases h
theorem re_meth {C m : Str} {Ca fa : Addr} {n k : Nat} {F : FM} {fd : FuncData} {ps : List Str} {pl : Sem Bool} (hm : X.mg C = some (.ref Ca)) (cl : Cls X.K Ca) (me : Meth X.K Ca m fa) (G : FnOk X.prog X.w X.K X.mg X.base (L2.CX X.prog X.w) k fa fd ps (spD X.K X.mg (n + 1) F)) (hr : Room k X.A) (hb : Binds X.K fd ps []) (tk : Takes X W) (ho : RE X W o mo) (ha : RA X W (e :: es) mas)
    (hn : ∀ τ S qs S', mas τ S = .ok qs S' → qs.length = n)
    (hst : starEach (e :: es) X.env = (false, eval e X.env) :: starEach es X.env := by rfl) (hpl : (backTo pos (starEach es X.env)).any (·.1) = false := by rfl)
    (ht : eval (.Call (.Attribute o m apos) (e :: es) [] pos) X.env = (do
      let ov ← eval o X.env
      standAt apos.atName
      let (f, first) ← holding [ov] (getMethod ov m pl)
      callWith pos f first (backTo pos (starEach (e :: es) X.env)) (backToKw pos (keywordEach [] X.env))) := by rfl) :
    RE X W (.Call (.Attribute o m apos) (e :: es) [] pos) (methM C m F mo mas) := by
  refine ⟨pe_weak (pe_methW (pl := pl) (E := WE W) ho.pe cl me G hr hb (fun σ => passAt tk σ) ha.pa hst hpl ht) fun σ H Q ⟨ι, τ, S, r, ρ, pk⟩ => ⟨ι, τ, S, r, ρ, pk.next.mono fun x H1 ⟨p, ι1, S1, e1, r1, q1, pk1⟩ => ?_⟩⟩
  split at pk1
  · rename_i hi
    obtain ⟨aI, dx, fs, rfl, h1, h2⟩ := isIns_rp hm r1 q1 hi
    refine ⟨aI, dx, fs, rfl, h1, h2, ι1, τ, S1, r1, ρ.up e1, ?_⟩
    have hn' := hn τ S1
    cases hm' : mas τ S1 with
    | bad => rw [hm'] at pk1; exact pk1.elim
    | er c p S' => rw [hm'] at pk1; exact pk1
    | ok qs S2 =>
      have hl := hn' qs S2 hm'
      rw [hm'] at pk1
      show ∀ ι' H' x, Ext ι1 H1 ι' H' → RSt X.K X.mg ι' H' S2 → RpL X.K ι' H' qs x → spD X.K X.mg (n + 1) F (.ref aI :: x) H' Q (WE W σ)
      intro ι' H' x e' r' q'
      exact call_wish (ps := p :: qs) r' ⟨_, _, rfl, q1.up e', q'⟩ (by simp [hl]) (Pk.up (o := F (p :: qs) S2) pk1 e')
  · exact pk1.elim
theorem re_meth0 {C m : Str} {Ca fa : Addr} {k : Nat} {F : FM} {fd : FuncData} {ps : List Str} {pl : Sem Bool} (hm : X.mg C = some (.ref Ca)) (cl : Cls X.K Ca) (me : Meth X.K Ca m fa) (G : FnOk X.prog X.w X.K X.mg X.base (L2.CX X.prog X.w) k fa fd ps (spD X.K X.mg 1 F)) (hr : Room k X.A) (hb : Binds X.K fd ps []) (tk : Takes X W) (ho : RE X W o mo)
    (ht : eval (.Call (.Attribute o m apos) [] [] pos) X.env = (do
      let ov ← eval o X.env
      standAt apos.atName
      let (f, first) ← holding [ov] (getMethod ov m pl)
      callWith pos f first (backTo pos (starEach [] X.env)) (backToKw pos (keywordEach [] X.env))) := by rfl) :
    RE X W (.Call (.Attribute o m apos) [] [] pos) (methM C m F mo aN) := by
  refine ⟨pe_weak (pe_methW0 (pl := pl) (E := WE W) ho.pe cl me G hr hb (fun σ => passAt tk σ) ht) fun σ H Q ⟨ι, τ, S, r, ρ, pk⟩ => ⟨ι, τ, S, r, ρ, pk.next.mono fun x H1 ⟨p, ι1, S1, e1, r1, q1, pk1⟩ => ?_⟩⟩
  split at pk1
  · rename_i hi
    obtain ⟨aI, dx, fs, rfl, h1, h2⟩ := isIns_rp hm r1 q1 hi
    exact ⟨aI, dx, fs, rfl, h1, h2, call_wish (ps := [p]) r1 ⟨_, _, rfl, q1, rfl⟩ rfl (show Pk X W (rV X) σ Q ι1 H1 (F [p] S1) from pk1)⟩
  · exact pk1.elim
end
end PL
/-! PLK: own classes made, len and == of them, keywords, raise, try. -/
namespace PL
open PySem PySem.Spec PyProof.Rows L2
section
variable {X : Cx} {W : WX} {a b c e o f tg iter : Expr} {es rest : List Expr} {ma mb mc mo mf : EM PV} {tA tB' : EM Bool} {mas mks : EM (List PV)} {pos apos cpos p2 : Pos} {kws : List Keyword}
/-! ### C(e, ..) -/
theorem run_makeW {CX : CXT} {k : Nat} {C f : Addr} {fd : FuncData} {ps ks : List Str} {sp : Sp} {E : XK} {g : List Value → List Value → List Value} {gV : List V → List V → List V} {pins : List (Addr × Obj)} {σ : L2.St} {H : Hp} {s : Shared} {Q : VK} {us ws : List Value} {vs zs : List V} (M : Mk X.K C f) (F : FnOk X.prog X.w X.K X.mg X.base CX k f fd ps sp) (hr : Room (k + 1) X.A) (hb : KBinds X.K fd ps ks g gV)
    (hx : PassesAt CX X σ E) (I : Inv X pins σ H s) (r : Vals vs us) (rz : Vals zs ws)
    (h : ∀ x dx, H x = none → H dx = none → dx ≠ x → sp (gV (.ref x :: vs) zs) (upd (upd H dx (.own x)) x (.ins C dx [])) (fun v H2 => v = .non ∧ Q (.ref x) H2) E) :
    wpAny (model X.prog X.w) X.A (call (.ref C) us (ks.zip ws)) (EP X pins σ Q) X.xe s := by
  have hq := h (s.heap.objs.size + 1) s.heap.objs.size (I.hok.fresh (Nat.le_succ _)) (I.hok.fresh (Nat.le_refl _)) (Nat.ne_of_lt (Nat.lt_succ_self _))
  have I2 := Inv.made (C := C) I
  have r1 : Vals (V.ref (s.heap.objs.size + 1) :: vs) (Value.ref (s.heap.objs.size + 1) :: us) := .cons rfl r
  have r2 := hb.rel r1 rz
  have hl : (g (Value.ref (s.heap.objs.size + 1) :: us) ws).length = ps.length := by
    rw [← r2.length]; exact F.len _ _ _ _ hq
  refine wpAny_call (make_map (f := f) I.kIn M.makes M.init (beq_iff_eq.mp M.fn) (codeAny_mono (F.run _ X.stack _ _ ⟨Value.ref (s.heap.objs.size + 1) :: us, ks.zip ws⟩ (g (Value.ref (s.heap.objs.size + 1) :: us) ws) _ _ E (hr.make C us (ks.zip ws))
    (I2.env0.make C us (ks.zip ws)) (hb.to _ (Value.ref (s.heap.objs.size + 1) :: us) ws I2.kIn hl) r2 hq) fun r s' hq' => ?_))
  cases r with
  | error e => exact hx pins _ _ e s' I2 hq'
  | ok fl =>
    cases fl with
    | ret u =>
      obtain ⟨v, H', I3, rv, ev, q3⟩ := I2.after hq'
      subst ev
      exact ⟨rv, ⟨V.ref (s.heap.objs.size + 1), H', I3, rfl, q3⟩⟩
    | next => exact False.elim hq'
    | brk => exact False.elim hq'
    | cont => exact False.elim hq'
theorem KBinds.of0 {K : PySem.W.Frag} {fd : FuncData} {ps : List Str} (hb : Binds K fd ps []) : KBinds K fd ps [] (fun us _ => us) (fun vs _ => vs) :=
  ⟨fun s us ws h hl => by
    have := hb s us h (by rw [List.append_nil]; exact hl)
    rw [List.append_nil] at this
    exact this, fun r _ => r⟩
def tMakeW (C : Addr) (sp : Sp) (E : L2.St → XK) (t : TA) : TE := fun σ H Q => t σ H fun vs H1 => ∀ x dx, H1 x = none → H1 dx = none → dx ≠ x →
  sp (.ref x :: vs) (upd (upd H1 dx (.own x)) x (.ins C dx [])) (fun v H2 => v = .non ∧ Q (.ref x) H2) (E σ)
theorem pe_makeW {CX : CXT} {x : Str} {p : Pos} {k : Nat} {C f : Addr} {fd : FuncData} {ps : List Str} {sp : Sp} {E : L2.St → XK} {t : TA} (M : Mk X.K C f) (F : FnOk X.prog X.w X.K X.mg X.base CX k f fd ps sp) (hr : Room (k + 1) X.A) (hg : Gl X x) (hm : X.mg x = some (.ref C)) (hb : Binds X.K fd ps []) (hx : ∀ σ, PassesAt CX X σ (E σ))
    (ha : PA X (e :: es) t) (hdb : (x == ("__debug__" : Str)) = false := by decide) (he : starEach (e :: es) X.env = (false, eval e X.env) :: starEach es X.env := by rfl) (hpl : (backTo pos (starEach es X.env)).any (·.1) = false := by rfl) :
    PE X (.Call (.Name x p) (e :: es) [] pos) (tMakeW C sp E t) := by
  refine ⟨fun pins s σ H Q I h => ?_⟩
  refine wpAny_Call_Name_kw (ld_glob I hg hm ?_ hdb)
  refine PySem.W.callWith_K (h₀ := X.base) I.ok.mod.kin M.kp (thn (ha.run pos pins s σ H _ I h) fun us s1 ⟨vs, H1, I1, r, q⟩ => ⟨I1.kIn, ?_⟩) he hpl
  have := run_makeW (us := us) (ws := []) (zs := []) M F hr (KBinds.of0 hb) (hx σ) I1 r .nil q
  exact this
/-- the one keyword of a call without places: C(k = v) -/
def tMakeW1 (C : Addr) (sp : Sp) (E : L2.St → XK) (t : TA) : TE := fun σ H Q => t σ H fun vs H1 => ∀ x dx, H1 x = none → H1 dx = none → dx ≠ x →
  sp (.ref x :: vs) (upd (upd H1 dx (.own x)) x (.ins C dx [])) (fun v H2 => v = .non ∧ Q (.ref x) H2) (E σ)
theorem pe_makeKw {CX : CXT} {x : Str} {p : Pos} {k : Nat} {C f : Addr} {fd : FuncData} {ps ks : List Str} {sp : Sp} {E : L2.St → XK} {t : TA} {g : List Value → List Value → List Value} {gV : List V → List V → List V} (M : Mk X.K C f) (F : FnOk X.prog X.w X.K X.mg X.base CX k f fd ps sp) (hr : Room (k + 1) X.A) (hg : Gl X x) (hm : X.mg x = some (.ref C)) (hb : KBinds X.K fd ps ks g gV) (hx : ∀ σ, PassesAt CX X σ (E σ))
    (hkw : PK X kws t) (hall : (backToKw pos (keywordEach kws X.env)).all (·.1.isSome) = true := by rfl) (hks : (backToKw pos (keywordEach kws X.env)).filterMap (·.1) = ks := by rfl)
    (hdb : (x == ("__debug__" : Str)) = false := by decide)
    (hpl : ((backTo pos (starEach [] X.env)).any (·.1) || (backToKw pos (keywordEach kws X.env)).any (·.1.isNone)) = false := by rfl) :
    PE X (.Call (.Name x p) [] kws pos) (fun σ H Q => t σ H fun zs H1 => ∀ x dx, H1 x = none → H1 dx = none → dx ≠ x → sp (gV [.ref x] zs) (upd (upd H1 dx (.own x)) x (.ins C dx [])) (fun v H2 => v = .non ∧ Q (.ref x) H2) (E σ)) := by
  refine ⟨fun pins s σ H Q I h => ?_⟩
  refine wpAny_Call_Name_kw (ld_glob I hg hm ?_ hdb)
  refine PySem.W.callWith_KW0 (h₀ := X.base) I.ok.mod.kin M.kp hall (thn (hkw.run pos pins s σ H _ I h) fun ws s1 ⟨zs, H1, I1, r, q⟩ => ⟨I1.kIn, ?_⟩) hpl
  rw [hks]
  exact run_makeW (us := []) (vs := []) M F hr hb (hx σ) I1 .nil r q
structure RK (X : Cx) (W : WX) (kws : List Keyword) (m : EM (List PV)) : Prop where
  pk : PK X kws (gE X W (rL X) m)
theorem pk_weak {kws : List Keyword} {t t' : TA} (h : PK X kws t) (w : ∀ σ H Q, t' σ H Q → t σ H Q) : PK X kws t' := ⟨fun pos pins s σ H Q I hh => h.run pos pins s σ H Q I (w σ H Q hh)⟩
theorem rk_nil : RK X W [] aN := ⟨pk_weak pk_nil fun σ H Q ⟨ι, τ, S, r, ρ, pk⟩ => pk _ _ _ .refl r rfl⟩
theorem rk_cons {nm : Option Str} {kpos : Pos} (ha : RE X W e ma) (hr : RK X W kws mas) : RK X W (⟨nm, e, kpos⟩ :: kws) (aC ma mas) := by
  refine ⟨pk_weak (pk_cons ha.pe hr.pk) fun σ H Q ⟨ι, τ, S, r, ρ, pk⟩ => ⟨ι, τ, S, r, ρ, pk.next.mono fun x H1 ⟨p, ι1, S1, e1, r1, q1, pk1⟩ => ⟨ι1, τ, S1, r1, ρ.up e1, pk1.next.mono fun xs H2 ⟨ps, ι2, S2, e2, r2, q2, pk2⟩ => ?_⟩⟩⟩
  exact pk2 _ _ _ .refl r2 ⟨x, xs, rfl, q1.up e2, q2⟩
def makeM (C : Str) (F : FM) (g : List PV → List PV) (ms : EM (List PV)) : EM PV := fun τ S => bnd (ms τ S) fun ps S1 => bnd (F (.loc S1.length :: g ps) (S1 ++ [.ins C []])) fun v S2 => match v with | .non => .ok (.loc S1.length) S2 | _ => .bad
theorem make_wish {C : Str} {Ca : Addr} {n : Nat} {F : FM} {σ : L2.St} {Q : VK} {ι : List Addr} {H : Hp} {S : Sto} {ps : List PV} {vs : List V} (hm : X.mg C = some (.ref Ca)) (r : RSt X.K X.mg ι H S) (q : RpL X.K ι H ps vs) (hn : ps.length = n)
    (pk : Pk X W (rV X) σ Q ι H (bnd (F (.loc S.length :: ps) (S ++ [.ins C []])) fun v S2 => match v with | .non => .ok (.loc S.length) S2 | _ => .bad)) (x dx : Addr) (hx : H x = none) (hdx : H dx = none) (hne : dx ≠ x) :
    spD X.K X.mg (n + 1) F (.ref x :: vs) (upd (upd H dx (.own x)) x (.ins Ca dx [])) (fun v H2 => v = .non ∧ Q (.ref x) H2) (WE W σ) := by
  obtain ⟨E1, r1⟩ := r.tup (ho := .own x) hdx
  have hx1 : upd H dx (.own x) x = none := by rw [upd_ne (Ne.symm hne)]; exact hx
  have E2 : Ext ι (upd H dx (.own x)) (ι ++ [x]) (upd (upd H dx (.own x)) x (.ins Ca dx [])) := .alloc hx1
  have r2 := r1.alloc (o := .ins C []) hx1 (fun _ _ _ _ => trivial) E2 ⟨Ca, dx, [], hm, upd_same, rfl⟩
  refine ⟨ι ++ [x], S ++ [.ins C []], .loc S.length :: ps, r2, ⟨.ref x, vs, rfl, ⟨x, rfl, by rw [← r.len]; simp⟩, (q.up E1).up E2⟩, by simp [hn], ?_⟩
  unfold Pk at pk
  rw [wp_bnd] at pk
  refine wp_mono pk (fun v S' k ι' H' y e' r' q' => ?_) fun c p S' k ι' H' Ca d y e' r' m hd hp => k ι' H' Ca d y ((E1.trans E2).trans e') r' m hd hp
  cases v with
  | non => exact ⟨q', k ι' H' (.ref x) ((E1.trans E2).trans e') r' ⟨x, rfl, e'.pre _ _ (by rw [← r.len]; simp)⟩⟩
  | _ => exact k.elim
theorem re_make {C : Str} {p : Pos} {n k : Nat} {F : FM} {Ca fa : Addr} {fd : FuncData} {ps : List Str} (M : Mk X.K Ca fa) (G : FnOk X.prog X.w X.K X.mg X.base (L2.CX X.prog X.w) k fa fd ps (spD X.K X.mg (n + 1) F)) (hr : Room (k + 1) X.A) (hg : Gl X C) (hm : X.mg C = some (.ref Ca)) (hb : Binds X.K fd ps []) (tk : Takes X W)
    (ha : RA X W (e :: es) mas) (hn : ∀ τ S qs S', mas τ S = .ok qs S' → qs.length = n) (hdb : (C == ("__debug__" : Str)) = false := by decide) (he : starEach (e :: es) X.env = (false, eval e X.env) :: starEach es X.env := by rfl) (hpl : (backTo pos (starEach es X.env)).any (·.1) = false := by rfl) :
    RE X W (.Call (.Name C p) (e :: es) [] pos) (makeM C F id mas) := by
  refine ⟨pe_weak (pe_makeW (E := WE W) M G hr hg hm hb (fun σ => passAt tk σ) ha.pa hdb he hpl) fun σ H Q ⟨ι, τ, S, r, ρ, pk⟩ => ⟨ι, τ, S, r, ρ, ?_⟩⟩
  have hn' := hn τ S
  unfold makeM at pk
  cases hm' : mas τ S with
  | bad => rw [hm'] at pk; exact pk.elim
  | er c p S' => rw [hm'] at pk; exact pk
  | ok qs S1 =>
    have hl := hn' qs S1 hm'
    rw [hm'] at pk
    show ∀ ι' H' x, Ext ι H ι' H' → RSt X.K X.mg ι' H' S1 → RpL X.K ι' H' qs x → _
    intro ι' H' vs e' r' q' x dx hx hdx hne
    exact make_wish hm r' q' hl (Pk.up (o := bnd (F (.loc S1.length :: qs) (S1 ++ [.ins C []])) _) pk e') x dx hx hdx hne
/-- C(k = v, ..): the keywords put in the order of the parameters by g -/
theorem re_makeKw {C : Str} {p : Pos} {n k : Nat} {F : FM} {Ca fa : Addr} {fd : FuncData} {ps ks : List Str} {g : List Value → List Value → List Value} {gV : List V → List V → List V} {gP : List PV → List PV} (M : Mk X.K Ca fa) (G : FnOk X.prog X.w X.K X.mg X.base (L2.CX X.prog X.w) k fa fd ps (spD X.K X.mg (n + 1) F)) (hr : Room (k + 1) X.A) (hg : Gl X C) (hm : X.mg C = some (.ref Ca)) (hb : KBinds X.K fd ps ks g gV) (tk : Takes X W)
    (hgp : ∀ ι H qs zs v, qs.length = n → RpL X.K ι H qs zs → ∃ vs, gV [v] zs = v :: vs ∧ RpL X.K ι H (gP qs) vs ∧ (gP qs).length = n)
    (ha : RK X W kws mas) (hn : ∀ τ S qs S', mas τ S = .ok qs S' → qs.length = n) (hall : (backToKw pos (keywordEach kws X.env)).all (·.1.isSome) = true := by rfl) (hks : (backToKw pos (keywordEach kws X.env)).filterMap (·.1) = ks := by rfl)
    (hdb : (C == ("__debug__" : Str)) = false := by decide)
    (hpl : ((backTo pos (starEach [] X.env)).any (·.1) || (backToKw pos (keywordEach kws X.env)).any (·.1.isNone)) = false := by rfl) :
    RE X W (.Call (.Name C p) [] kws pos) (makeM C F gP mas) := by
  refine ⟨pe_weak (pe_makeKw (E := WE W) M G hr hg hm hb (fun σ => passAt tk σ) ha.pk hall hks hdb hpl) fun σ H Q ⟨ι, τ, S, r, ρ, pk⟩ => ⟨ι, τ, S, r, ρ, ?_⟩⟩
  have hn' := hn τ S
  unfold makeM at pk
  cases hm' : mas τ S with
  | bad => rw [hm'] at pk; exact pk.elim
  | er c p S' => rw [hm'] at pk; exact pk
  | ok qs S1 =>
    have hl := hn' qs S1 hm'
    rw [hm'] at pk
    show ∀ ι' H' x, Ext ι H ι' H' → RSt X.K X.mg ι' H' S1 → RpL X.K ι' H' qs x → _
    intro ι' H' zs e' r' q' x dx hx hdx hne
    obtain ⟨vs, ev, qv, ln⟩ := hgp ι' H' qs zs (.ref x) hl q'
    rw [ev]
    exact make_wish hm r' qv ln (Pk.up (o := bnd (F (.loc S1.length :: gP qs) (S1 ++ [.ins C []])) _) pk e') x dx hx hdx hne
/-! ### o.m(k = v, ..) -/
theorem pe_methKw {CX : CXT} {k : Nat} {C f : Addr} {fd : FuncData} {ps ks : List Str} {sp : Sp} {E : L2.St → XK} {m : Str} {ta : TE} {t : TA} {pl : Sem Bool} {g : List Value → List Value → List Value} {gV : List V → List V → List V} (he : PE X o ta) (c : Cls X.K C) (hm : Meth X.K C m f) (F : FnOk X.prog X.w X.K X.mg X.base CX k f fd ps sp) (hr : Room k X.A) (hb : KBinds X.K fd ps ks g gV) (hx : ∀ σ, PassesAt CX X σ (E σ)) (hkw : PK X kws t)
    (hall : (backToKw pos (keywordEach kws X.env)).all (·.1.isSome) = true := by rfl) (hks : (backToKw pos (keywordEach kws X.env)).filterMap (·.1) = ks := by rfl)
    (hpl : ((backTo pos (starEach [] X.env)).any (·.1) || (backToKw pos (keywordEach kws X.env)).any (·.1.isNone)) = false := by rfl)
    (ht : eval (.Call (.Attribute o m apos) [] kws pos) X.env = (do
      let ov ← eval o X.env
      standAt apos.atName
      let (f, first) ← holding [ov] (getMethod ov m pl)
      callWith pos f first (backTo pos (starEach [] X.env)) (backToKw pos (keywordEach kws X.env))) := by rfl) :
    PE X (.Call (.Attribute o m apos) [] kws pos) (fun σ H Q => ta σ H fun x H1 => ∃ a dx fs, x = .ref a ∧ H1 a = some (.ins C dx fs) ∧ fs.lookup m = none ∧ t σ H1 fun zs H2 => sp (gV [x] zs) H2 Q (E σ)) := by
  refine ⟨fun pins s σ H Q I h => ?_⟩
  refine PySem.W.methodCall_KW (pl := pl) (thn (he.run pins s σ H _ I h) fun u s1 ⟨x, H1, I1, rx, a, dx, fs, ex, ea, l, q⟩ => ?_) ht
  subst ex
  obtain rfl : u = Value.ref a := rx
  refine getmeth_ok I1 ea c hm l ?_
  refine PySem.W.callWith_KW0 (first := [.ref a]) (h₀ := X.base) I.ok.mod.kin hm.kp hall (thn (hkw.run pos pins s1 σ H1 _ I1 q) fun ws s2 ⟨zs, H2, I2, r, q2⟩ => ⟨I2.kIn, ?_⟩) hpl
  rw [hks, List.append_nil]
  have r1 : Vals [V.ref a] [Value.ref a] := .cons rfl .nil
  have r2 := hb.rel r1 r
  have hl : (g [Value.ref a] ws).length = ps.length := by rw [← r2.length]; exact F.len _ _ _ _ q2
  refine wpAny_call (codeAny_mono (F.run X.A X.stack s2 H2 ⟨[.ref a], ks.zip ws⟩ (g [.ref a] ws) (gV [.ref a] zs) Q (E σ) hr I2.env0 (hb.to s2 [.ref a] ws I2.kIn hl) r2 q2) fun r s' hq => ?_)
  cases r with
  | error e => exact hx σ pins H2 s2 e s' I2 hq
  | ok fl =>
    cases fl with
    | ret u => exact I2.after hq
    | next => exact False.elim hq
    | brk => exact False.elim hq
    | cont => exact False.elim hq
def methKM (C m : Str) (F : FM) (g : List PV → List PV) (mo : EM PV) (ms : EM (List PV)) : EM PV := fun τ S => bnd (mo τ S) fun p S1 => if isIns C m p S1 = true then bnd (ms τ S1) fun ps S2 => F (p :: g ps) S2 else .bad
theorem re_methKw {C m : Str} {Ca fa : Addr} {n k : Nat} {F : FM} {fd : FuncData} {ps ks : List Str} {pl : Sem Bool} {g : List Value → List Value → List Value} {gV : List V → List V → List V} {gP : List PV → List PV} (hm : X.mg C = some (.ref Ca)) (cl : Cls X.K Ca) (me : Meth X.K Ca m fa) (G : FnOk X.prog X.w X.K X.mg X.base (L2.CX X.prog X.w) k fa fd ps (spD X.K X.mg (n + 1) F)) (hr : Room k X.A) (hb : KBinds X.K fd ps ks g gV) (tk : Takes X W) (ho : RE X W o mo)
    (hgp : ∀ ι H qs zs v, qs.length = n → RpL X.K ι H qs zs → ∃ vs, gV [v] zs = v :: vs ∧ RpL X.K ι H (gP qs) vs ∧ (gP qs).length = n)
    (ha : RK X W kws mas) (hn : ∀ τ S qs S', mas τ S = .ok qs S' → qs.length = n) (hall : (backToKw pos (keywordEach kws X.env)).all (·.1.isSome) = true := by rfl) (hks : (backToKw pos (keywordEach kws X.env)).filterMap (·.1) = ks := by rfl)
    (hpl : ((backTo pos (starEach [] X.env)).any (·.1) || (backToKw pos (keywordEach kws X.env)).any (·.1.isNone)) = false := by rfl)
    (ht : eval (.Call (.Attribute o m apos) [] kws pos) X.env = (do
      let ov ← eval o X.env
      standAt apos.atName
      let (f, first) ← holding [ov] (getMethod ov m pl)
      callWith pos f first (backTo pos (starEach [] X.env)) (backToKw pos (keywordEach kws X.env))) := by rfl) :
    RE X W (.Call (.Attribute o m apos) [] kws pos) (methKM C m F gP mo mas) := by
  refine ⟨pe_weak (pe_methKw (pl := pl) (E := WE W) ho.pe cl me G hr hb (fun σ => passAt tk σ) ha.pk hall hks hpl ht) fun σ H Q ⟨ι, τ, S, r, ρ, pk⟩ => ⟨ι, τ, S, r, ρ, pk.next.mono fun x H1 ⟨p, ι1, S1, e1, r1, q1, pk1⟩ => ?_⟩⟩
  split at pk1
  · rename_i hi
    obtain ⟨aI, dx, fs, rfl, h1, h2⟩ := isIns_rp hm r1 q1 hi
    refine ⟨aI, dx, fs, rfl, h1, h2, ι1, τ, S1, r1, ρ.up e1, ?_⟩
    have hn' := hn τ S1
    cases hm' : mas τ S1 with
    | bad => rw [hm'] at pk1; exact pk1.elim
    | er c p S' => rw [hm'] at pk1; exact pk1
    | ok qs S2 =>
      have hl := hn' qs S2 hm'
      rw [hm'] at pk1
      show ∀ ι' H' x, Ext ι1 H1 ι' H' → RSt X.K X.mg ι' H' S2 → RpL X.K ι' H' qs x → spD X.K X.mg (n + 1) F (gV [.ref aI] x) H' Q (WE W σ)
      intro ι' H' zs e' r' q'
      obtain ⟨vs, ev, qv, ln⟩ := hgp ι' H' qs zs (.ref aI) hl q'
      rw [ev]
      exact call_wish (ps := p :: gP qs) r' ⟨_, _, rfl, q1.up e', qv⟩ (by simp [ln]) (Pk.up (o := F (p :: gP qs) S2) pk1 e')
  · exact pk1.elim
/-! ### len(o), o == u of own classes -/
def lenOwnM (C : Str) (F : FM) (m : EM PV) : EM PV := fun τ S => bnd (m τ S) fun p S1 => if isIns C "" p S1 = true then bnd (F [p] S1) fun v S2 => (match v with | .int n => if 0 ≤ n ∧ n < 4611686018427387904 then .ok (.int n) S2 else .bad | _ => .bad) else .bad
theorem re_lenOwn {C : Str} {p : Pos} {k : Nat} {F : FM} {Ca fa : Addr} {fd : FuncData} {ps : List Str} (hm : X.mg C = some (.ref Ca)) (hs : PySem.W.findIn X.K (.ref Ca) "__len__" = some (some (.ref fa))) (hf : PySem.W.isFn X.K (.ref fa) = true)
    (G : FnOk X.prog X.w X.K X.mg X.base (L2.CX X.prog X.w) k fa fd ps (spD X.K X.mg 1 F)) (hr : Room (k + 1) X.A) (hb : Binds X.K fd ps []) (tk : Takes X W) (hg : Gl X "len") (hml : X.mg "len" = none) (ha : RE X W a ma)
    (he : starEach [a] X.env = (false, eval a X.env) :: starEach [] X.env := by rfl) (hpl : (backTo pos (starEach [] X.env)).any (·.1) = false := by rfl) : RE X W (.Call (.Name "len" p) [a] [] pos) (lenOwnM C F ma) := by
  have hc : PE X (.Call (.Name "len" p) [a] [] pos) (fun σ H Q => gE X W (rV X) ma σ H fun x H1 => ∃ ad dx fs, x = .ref ad ∧ H1 ad = some (.ins Ca dx fs) ∧ spD X.K X.mg 1 F [x] H1 (fun v H2 => ∃ n : Int, v = .int n ∧ (0 ≤ n ∧ n < 4611686018427387904) ∧ Q (.int n) H2) (WE W σ)) := by
    refine ⟨fun pins s σ H Q I h => ?_⟩
    refine wpAny_Call_Name_kw (ld_blt I hg hml boot_len ?_)
    refine PyProof.Rows.callWith_builtin1 (PyProof.Rows.args_cons (thn (ha.pe.run pins s σ H _ I h) fun v s1 ⟨x, H1, I1, r1, q1⟩ => PyProof.Rows.args_nil ?_) he) he hpl
    obtain ⟨ad, dx, fs, rfl, h1, hsp⟩ := q1
    cases r1
    obtain ⟨mA, J, _⟩ := ins_get I1.hok h1
    obtain ⟨od, J, _⟩ := J.look
    obtain ⟨m, hF⟩ := I1.fr
    refine PySem.W.len_K hF I1.ok.mod.kin J hs hf ?_
    have hl := G.len _ _ _ _ hsp
    have e0 : Env0 X.prog X.w X.K X.mg X.base X.A.in1 X.stack s1 H1 := I1.env0.in1
    have r2 : Vals [V.ref ad] [Value.ref ad] := .cons rfl .nil
    refine wpAny_call (codeAny_mono (G.run X.A.in1 X.stack s1 H1 ⟨[.ref ad], []⟩ [.ref ad] [.ref ad] _ (WE W σ) hr.in1 e0 (by
      have := hb s1 [.ref ad] I1.kIn (by simpa using hl)
      simpa using this) r2 hsp) fun r s' hq => ?_)
    cases r with
    | error e => exact passAt tk σ pins H1 s1 e s' I1 hq
    | ok fl =>
      cases fl with
      | ret w =>
        obtain ⟨z, H', I', rz, n, ez, hn, q⟩ := I1.after hq
        subst ez
        obtain ⟨t, rfl⟩ := rz
        refine ⟨⟨hn.1, by omega⟩, ?_⟩
        exact ⟨.int n, H', I'.tok _, ⟨_, rfl⟩, q⟩
      | next => exact False.elim hq
      | brk => exact False.elim hq
      | cont => exact False.elim hq
  refine ⟨pe_weak hc fun σ H Q ⟨ι, τ, S, r, ρ, pk⟩ => ⟨ι, τ, S, r, ρ, pk.next.mono fun x H1 ⟨p, ι1, S1, e1, r1, q1, pk1⟩ => ?_⟩⟩
  split at pk1
  · rename_i hi
    obtain ⟨aI, dx, fs, rfl, h1, h2⟩ := isIns_rp hm r1 q1 hi
    refine ⟨aI, dx, fs, rfl, h1, ι1, S1, [p], r1, ⟨_, _, rfl, q1, rfl⟩, rfl, ?_⟩
    unfold Pk at pk1
    rw [wp_bnd] at pk1
    refine wp_mono pk1 (fun v S' k ι' H' y e' r' q' => ?_) fun c p S' k ι' H' Ca d y e' r' m hd hp => k ι' H' Ca d y e' r' m hd hp
    cases v with
    | int n =>
      simp only at k
      split at k
      · rename_i hn
        exact ⟨n, q', hn, k ι' H' _ e' r' rfl⟩
      · exact k.elim
    | _ => exact k.elim
  · exact pk1.elim
end
end PL
/-! PLM: len(set(t)), t a tuple of texts and ints. -/
namespace PL
open PySem PySem.Spec PyProof.Rows L2
/-- each key once, in the order in which it is met first -/
def onceK (acc : List Key) : List Key → List Key
  | [] => acc
  | k :: r => onceK (if acc.any (fun j => decide (j = k)) then acc else acc ++ [k]) r
theorem setOf_same {prog : Program} {w : World} {h : Heap} {a : Addr} {S S' : Key → Bool} {n n' : Nat} (hS : h.SetOf (mixKind prog w) a S n) (e : ∀ k, S k = S' k) (en : n = n') : h.SetOf (mixKind prog w) a S' n' := by
  obtain rfl : S = S' := funext e
  subst en
  exact hS
theorem onceK_app (k : Key) : ∀ (ks acc : List Key), onceK acc (ks ++ [k]) = (if (onceK acc ks).any (fun j => decide (j = k)) then onceK acc ks else onceK acc ks ++ [k])
  | [], acc => rfl
  | j :: ks, acc => by
    show onceK _ (ks ++ [k]) = _
    rw [onceK_app k ks]
    rfl
theorem onceK_len : ∀ (ks acc : List Key), (onceK acc ks).length ≤ acc.length + ks.length
  | [], acc => Nat.le_refl _
  | k :: ks, acc => by
    have := onceK_len ks (if acc.any (fun j => decide (j = k)) then acc else acc ++ [k])
    unfold onceK
    rw [List.length_cons]
    split at this <;> simp_all <;> omega
section
variable {prog : Program} {w : World} {A : Around} {R : Result → Shared → Prop} {I : Addr} {fp wr : List Addr} {G : Array GenState → Array GenState → Prop} {n : Nat} {P : Nat → Value → Prop} {St : Nat → Shared → Prop}
theorem setLoopK (W : WalksS prog w A.in1 I fp wr G n P St) (S : Addr) (hSf : S ∉ fp) (ks : List Key) (hsz : ks.length = n) (hb : n + 1 < scanBound)
    (hval : ∀ i v, P i v → ∃ k, ks[i]? = some k ∧ keyIs k v = true) :
    ∀ (m i : Nat) (s : Shared), n - i = m → i ≤ n → St i s → s.heap.SetOf (mixKind prog w) S (fun j => (onceK [] (ks.take i)).any (fun x => decide (x = j))) (onceK [] (ks.take i)).length →
      (∀ s', Moved (S :: wr) G s s' → s'.heap.SetOf (mixKind prog w) S (fun j => (onceK [] ks).any (fun x => decide (x = j))) (onceK [] ks).length → R (.ok (.ret .none)) s') →
      codeAny (model prog w) A (.builtin "set.update.loop" ⟨[.ref S, .ref I], []⟩) R s := by
  have nw : S ∉ wr := fun h => hSf (W.sub _ h)
  have up : ∀ b ∈ wr, b ∈ S :: wr := fun b hb => List.mem_cons_of_mem _ hb
  intro m
  induction m with
  | zero =>
    intro i s hm hi st hS hR
    obtain rfl : i = n := by omega
    rw [List.take_of_length_le (Nat.le_of_eq hsz)] at hS
    refine codeAny_builtin PyProof.Rows.F.entry_set_update_loop ?_
    rw [Around.under_plainId PyProof.Rows.F.plain_set_update_loop _]
    refine (wpAny_bind (W.done s _ _ st fun s' mv => ?_) : wpAny _ A.in1 (pyNext (.ref I) >>= _) _ _ s)
    have fin : s'.heap.SetOf (mixKind prog w) S (fun j => (onceK [] ks).any (fun x => decide (x = j))) (onceK [] ks).length := by
      obtain ⟨o, es, ep, t, ho, more⟩ := hS
      exact ⟨o, es, ep, t, mv.heap S _ nw ho, more⟩
    show wpAny _ A.in1 (ret Value.none) _ _ s'
    exact wpAny_pure (hR s' (mv.mono up) fin)
  | succ m ih =>
    intro i s hm hi st hS hR
    have lt : i < n := by omega
    refine codeAny_builtin PyProof.Rows.F.entry_set_update_loop ?_
    rw [Around.under_plainId PyProof.Rows.F.plain_set_update_loop _]
    refine (wpAny_bind (W.item i s _ _ lt st fun v s' hP st' mv => ?_) : wpAny _ A.in1 (pyNext (.ref I) >>= _) _ _ s)
    obtain ⟨k, hk, kis⟩ := hval i v hP
    have hS1 : s'.heap.SetOf (mixKind prog w) S (fun j => (onceK [] (ks.take i)).any (fun x => decide (x = j))) (onceK [] (ks.take i)).length := by
      obtain ⟨o, es, ep, t, ho, more⟩ := hS
      exact ⟨o, es, ep, t, mv.heap S _ nw ho, more⟩
    have scan : v.scannable = true := by
      rcases keyIs_shape kis with ⟨j, t, _, rfl⟩ | ⟨x, t, _, rfl⟩ <;> rfl
    have room : (onceK [] (ks.take i)).length + 1 < scanBound := by
      have h1 := onceK_len (ks.take i) []
      have h2 : (ks.take i).length ≤ i := by rw [List.length_take]; omega
      simp at h1
      omega
    refine (wpAny_bind (wpAny_holding ?_) : wpAny _ A.in1 (holding [v] (setAdd S v) >>= _) _ _ s')
    unfold setAdd
    refine wpAny_holding (wpAny_bind ((mixKind prog w).pyHash (k := k) kis ?_))
    refine wpAny_setAddHashed_of (knd := mixKind prog w) (s := { s' with toks := s'.toks + 1 }) kis scan hS1 room fun h' sb hS2 => ?_
    have tk : ks.take (i + 1) = ks.take i ++ [k] := by rw [List.take_add_one, hk]; rfl
    have hS3 : h'.SetOf (mixKind prog w) S (fun j => (onceK [] (ks.take (i + 1))).any (fun x => decide (x = j))) (onceK [] (ks.take (i + 1))).length := by
      rw [tk, onceK_app]
      refine setOf_same hS2 (fun j => ?_) ?_
      · by_cases c : (onceK [] (ks.take i)).any (fun x => decide (x = k)) = true
        · rw [if_pos c]
          by_cases e : j = k
          · subst e; rw [c]; rfl
          · simp [e]
        · rw [if_neg c, List.any_append]
          by_cases e : j = k
          · subst e; simp
          · have e' : ¬ k = j := fun z => e z.symm
            simp [e, e']
      · by_cases c : (onceK [] (ks.take i)).any (fun x => decide (x = k)) = true
        · rw [if_pos c, if_pos c]
        · rw [if_neg c, if_neg c, List.length_append]; rfl
    refine wpAny_pure ⟨plainId_quiet PyProof.Rows.F.plain_set_update_loop _, ih (i + 1) _ (by omega) lt (W.frame _ s' _ _ st' (Nat.le_succ _) fun b hb o e => ?_) hS3 fun s2 mv2 hS4 => ?_⟩
    · exact (sb.2 b fun z : b = S => hSf (z ▸ hb)).trans e
    · exact hR s2 (Moved.trans W.gtrans ((mv.mono up).then_heap (Nat.le_succ _) fun b o hb e => (sb.2 b fun z : b = S => hb (by rw [z]; exact List.mem_cons_self)).trans e) mv2) hS4
end
section
variable {prog : Program} {w : World} {A : Around} {E : Value → Shared → Prop} {s : Shared}
set_option maxHeartbeats 3200000 in
theorem call_setK {l : Addr} {items : Array Value} {ks : List Key} {Q : Value → Shared → Prop} (hh : A.handled = none) (hl : s.heap.IsTuple l items) (hi : ks.length = items.size) (hk : ∀ (i : Nat) v, items[i]? = some v → ∃ k, ks[i]? = some k ∧ keyIs k v = true) (hn : items.size + 1 < scanBound)
    (h : ∀ (h' : Heap) (tk : Nat), h'.SetOf (mixKind prog w) s.heap.objs.size (fun j => (onceK [] ks).any (fun x => decide (x = j))) (onceK [] ks).length → (∀ b o, b < s.heap.objs.size → s.heap.get? b = some o → h'.get? b = some o) → Q (.ref s.heap.objs.size) { s with heap := h', toks := tk }) :
    wpAny (model prog w) A (call (.type "set") [.ref l]) Q E s := by
  obtain ⟨c, tl, hmro⟩ := PySem.F.called_set.mro
  have x1 := PySem.F.called_set.made
  have x2 := PySem.F.called_set.sub
  have x3 := PySem.F.called_set.notType
  have x4 := PySem.F.called_set.canCreate
  have x5 := PySem.F.typeCall_set_1 (.ref l)
  refine wpAny_call (codeAny_of_tree ((wpAny_pure ⟨Code.quiet_builtin _ (by decide +kernel), codeAny_builtin PySem.F.entry_type_call ?_⟩ : wpAny _ _ (callAny (.type "set") _) _ _ _)))
  rw [Around.under_plain (weight_type_call_type "set" [.ref l] []) rfl]
  repeat (any_goals (first | assumption | wp_step))
  refine codeAny_mono (code_set_new_1 (.ref l) (E := E) (Q₁ := fun obj s₁ => ∃ led : Bool, obj = .ref s.heap.objs.size ∧ s₁ = { s with heap := s.heap.push { cls := .type "set", dict := none, data := .set #[] 0 (.fresh 0 0 led) } }) fun led => ⟨led, rfl, rfl⟩) fun r s₁ hr => ?_
  cases r with
  | error e => exact hr
  | ok fl =>
    cases fl with
    | ret obj =>
      obtain ⟨led, rfl, rfl⟩ := hr
      have hS := Heap.get?_push_size (o := ({ cls := .type "set", dict := none, data := .set #[] 0 (.fresh 0 0 led) } : Obj)) s.heap rfl
      have hT : Shared.TypeIs { s with heap := s.heap.push { cls := .type "set", dict := none, data := .set #[] 0 (.fresh 0 0 led) } } (.ref s.heap.objs.size) "set" := ⟨_, hS, rfl⟩
      have y1 := PySem.F.called_set.init.lookup
      have y2 := PySem.F.called_set.init.bind (.ref s.heap.objs.size)
      repeat (any_goals (first | assumption | wp_step))
      refine codeAny_mono (codeAny_call_builtin (R := wants (fun r s₂ => r = .none ∧ ∃ h' tk, s₂ = { s with heap := h', toks := tk } ∧ h'.SetOf (mixKind prog w) s.heap.objs.size (fun j => (onceK [] ks).any (fun x => decide (x = j))) (onceK [] ks).length ∧
          (∀ b o, b < s.heap.objs.size → s.heap.get? b = some o → h'.get? b = some o)) E) PySem.F.called_set.init.plain PySem.F.entry_set_init (check_set_init_1 hT ?_)) fun r₂ s₂ hr₂ => ?_
      · obtain ⟨⟨oc, od, odt, osl⟩, hol, hcl, nl, hdl⟩ := hl
        simp only at hcl hdl
        subst hcl; subst hdl
        have hol' : (s.heap.push { cls := .type "set", dict := none, data := .set #[] 0 (.fresh 0 0 led) }).get? l = some { cls := .type "tuple", dict := od, data := .seq items nl, slots := osl } := Heap.get?_push_of_some _ hol
        have z1 := PySem.F.sub_tuple_set
        have z2 := PySem.F.sub_tuple_frozenset
        have z3 : (Value.type "tuple" == Value.type "dict") = false := by decide
        have hl1 : (s.heap.push { cls := .type "set", dict := none, data := .set #[] 0 (.fresh 0 0 led) }).IsTuple l items := ⟨_, hol', rfl, nl, rfl⟩
        unfold Builtin.«set.__init__» noKeywords Builtin.Frozenset.updateFrom
        generalize hPI : pyIter = PI
        wp_walk
        subst hPI
        refine wpAny_pyIter_tuple hl1 (wpAny_bind (wpAny_runValue ?_))
        have lS : l < s.heap.objs.size := Heap.lt_size hol
        have hd3 : A.in1.in1.in1.handled = none := by simp [hh]
        have neI : l ≠ (s.heap.push { cls := .type "set", dict := none, data := .set #[] 0 (.fresh 0 0 led) }).objs.size := by
          rw [Heap.size_push]; exact Nat.ne_of_lt (Nat.lt_succ_of_lt lS)
        have nf : s.heap.objs.size ∉ [(s.heap.push { cls := .type "set", dict := none, data := .set #[] 0 (.fresh 0 0 led) }).objs.size, l] := by
          rw [Heap.size_push]; simp only [List.mem_cons, List.mem_singleton, List.not_mem_nil, or_false, not_or]
          exact ⟨Nat.ne_of_lt (Nat.lt_succ_self _), Nat.ne_of_gt lS⟩
        refine setLoopK ((Walks.tuple hd3 _ l neI items).toS) s.heap.objs.size nf ks hi hn (fun i v hv => hk i v hv) (items.size - 0) 0 _ (by omega) (Nat.zero_le _) ⟨⟨_, Heap.get?_push_size _ rfl, rfl, rfl⟩, (hl1.push _)⟩ ?hS0 ?hR
        case hS0 =>
          have hg : ((s.heap.push { cls := .type "set", dict := none, data := .set #[] 0 (.fresh 0 0 led) }).push { cls := .type "tuple_iterator", data := .fields #[.ref l, .int 0 0] }).get? s.heap.objs.size
              = some { cls := .type "set", dict := none, data := .set #[] 0 (.fresh 0 0 led) } := Heap.get?_push_of_some _ hS
          exact ⟨_, #[], 0, _, hg, ⟨rfl, rfl, rfl⟩, rfl, fun e he => by simp at he, fun k => by simp [onceK], by decide, by rfl, rfl⟩
        case hR =>
          intro s' mv hS'
          obtain ⟨h', g', d', tk', os'⟩ := s'
          have eg : g' = s.gens := mv.gens
          have ed : d' = s.drawn := mv.drawn
          have eo : os' = s.os := mv.os
          subst eg; subst ed; subst eo
          show wpAny _ _ _ _ _ _
          refine wpAny_pure ?_
          show wpAny _ _ (ret Value.none) _ _ _
          refine wpAny_pure ⟨rfl, h', tk', rfl, hS', fun b o hb e => ?_⟩
          refine mv.heap b o ?_ (Heap.get?_push_of_some _ (Heap.get?_push_of_some _ e))
          rw [Heap.size_push]
          simp only [List.mem_cons, List.mem_singleton, List.not_mem_nil, or_false, not_or]
          exact ⟨Nat.ne_of_lt hb, Nat.ne_of_lt (Nat.lt_succ_of_lt hb)⟩
      · cases r₂ with
        | error e => exact hr₂
        | ok fl₂ =>
          cases fl₂ with
          | ret r =>
            obtain ⟨rfl, h', tk, rfl, hS', hk'⟩ := hr₂
            repeat (any_goals (first | assumption | wp_step))
            exact h _ _ hS' hk'
          | _ => exact hr₂.elim
    | _ => exact hr.elim
end
/-- keys -/
def keysP : List PV → Option (List Key)
  | [] => some []
  | x :: r => (keyP x).bind fun k => (keysP r).map fun ks => k :: ks
def lenSetM (m : EM PV) : EM PV := fun τ S => bnd (m τ S) fun p S1 => match p with
  | .tup xs => (match keysP xs with | some ks => if ks.length ≤ 4000 then .ok (.int (onceK [] ks).length) S1 else .bad | none => .bad)
  | _ => .bad
theorem keys_at {K : PySem.W.Frag} {ι : List Addr} {H : Hp} : ∀ {xs : List PV} {ks : List Key} {vs : List V} {us : List Value}, keysP xs = some ks → RpL K ι H xs vs → Vals vs us → ks.length = us.length ∧ ∀ (i : Nat) v, us[i]? = some v → ∃ k, ks[i]? = some k ∧ keyIs k v = true
  | [], ks, _, _, e, h, r => by
    cases e
    cases (show _ = _ from h)
    cases r
    exact ⟨rfl, fun i v h => by simp at h⟩
  | x :: xs, ks, _, _, e, h, r => by
    obtain ⟨v, w, rfl, h1, h2⟩ := h
    unfold keysP at e
    cases q : keyP x with
    | none => rw [q] at e; cases e
    | some k =>
      cases q2 : keysP xs with
      | none => rw [q, q2] at e; cases e
      | some ks' =>
        rw [q, q2] at e
        cases e
        cases r with
        | cons r1 r2 =>
          obtain ⟨l, f⟩ := keys_at q2 h2 r2
          refine ⟨by simp [l], fun i v' hv => ?_⟩
          cases i with
          | zero =>
            simp at hv; subst hv
            refine ⟨k, rfl, ?_⟩
            cases key_rp h1 q
            cases k with
            | inl i => obtain ⟨t, rfl⟩ := r1; exact keyIs_int i t
            | inr x => obtain ⟨t, rfl⟩ := r1; exact keyIs_str x t
          | succ i => exact f i v' (by simpa using hv)
theorem re_lenSet {X : Cx} {W : WX} {a : Expr} {ma : EM PV} {p p2 q pos : Pos} (hc : X.calm = true) (hg : Gl X "len") (hm : X.mg "len" = none) (hg2 : Gl X "set") (hm2 : X.mg "set" = none) (ha : RE X W a ma)
    (na : starEach [a] X.env = (false, eval a X.env) :: starEach [] X.env := by rfl) : RE X W (.Call (.Name "len" p) [.Call (.Name "set" p2) [a] [] q] [] pos) (lenSetM ma) := by
  have h0 : PE X (.Call (.Name "len" p) [.Call (.Name "set" p2) [a] [] q] [] pos) (fun σ H Q => gE X W (rV X) ma σ H fun x H1 => ∃ ad vs ks, x = .ref ad ∧ FzT X.K H1 ad vs ∧ (∀ us, Vals vs us → ks.length = us.length ∧ ∀ (i : Nat) v, us[i]? = some v → ∃ k, ks[i]? = some k ∧ keyIs k v = true) ∧ ks.length ≤ 4000 ∧ Q (.int (onceK [] ks).length) H1) := by
    refine ⟨fun pins s σ H Q I h => ?_⟩
    refine Call_ (ld_blt I hg hm boot_len (PyProof.Rows.callWith_builtin1 (PyProof.Rows.args_cons ?_ rfl) rfl rfl))
    refine Call_ (ld_blt I hg2 hm2 boot_set ?_)
    refine PyProof.Rows.callWith_type1 (PyProof.Rows.args_cons (thn (ha.pe.run pins s σ H _ I h) fun v s1 ⟨x, H1, I1, r1, ad, vs, ks, ex, hq, hks, hl, q1⟩ => PyProof.Rows.args_nil ?_) na) na rfl
    subst ex
    cases r1
    obtain ⟨its, r, pl, hz⟩ := I1.tuple hq.seq
    obtain ⟨k1, k2⟩ := hks its r
    refine call_setK (ks := ks) (I1.ok.hd hc) pl (by simpa using k1) (fun i v hv => k2 i v (by simpa using hv)) (by
      show its.toArray.size + 1 < 4096
      rw [List.size_toArray, ← k1]; omega) fun h' tk hS hk => ?_
    refine PyProof.Rows.args_nil ?_
    have hlen := onceK_len ks []
    obtain ⟨o, es, ep, t, ho, hex, hd, _, _, _, hf, hn⟩ := hS
    have I2 : Inv X pins σ H1 { s1 with heap := h', toks := tk } := I1.kept fun b o e => hk b o (Heap.lt_size e) e
    refine call_len_set ho hex hd hf (by rw [hn]; simp at hlen; omega) ⟨.int (onceK [] ks).length, H1, I2.tok _, ⟨_, by rw [hn]⟩, q1⟩
  refine ⟨pe_weak h0 fun σ H Q ⟨ι, τ, S, r, ρ, pk⟩ => ⟨ι, τ, S, r, ρ, pk.next.mono fun x H1 ⟨p, ι1, S1, e1, r1, q1, pk1⟩ => ?_⟩⟩
  split at pk1
  · split at pk1
    · rename_i ks hks
      split at pk1
      · rename_i hl
        obtain ⟨ad, vs, rfl, h1, h2⟩ := q1
        exact ⟨ad, vs, ks, rfl, h1, fun us r => keys_at hks h2 r, hl, pk1 _ _ _ .refl r1 rfl⟩
      · exact pk1.elim
    · exact pk1.elim
  · exact pk1.elim
end PL
/-! PLN: defs of the text, facts. -/
namespace PL
open PySem PySem.Spec PyProof.Rows L2
/-- a method as it stands behind the top; a def -/
structure DF (K : PySem.W.Frag) (x qual : Str) (st : Stmt) (ps : List Str) where
  a : Addr
  d : FuncData
  F : Fun K x qual st a d
  b : Binds K d ps []
structure DG (K : PySem.W.Frag) (mg : Str → Option Value) (x : Str) (st : Stmt) (ps : List Str) extends DF K x x st ps where
  g : mg x = some (.ref a)
section
variable {P : Program} {w : World} {K : PySem.W.Frag} {mg : Str → Option Value} {base : Heap}
theorem fn_bad {k : Nat} {f : Addr} {fd : FuncData} {ps : List Str} {n : Nat} (hn : n = ps.length := by rfl) : FnOk P w K mg base (L2.CX P w) k f fd ps (spD K mg n fun _ _ => .bad) :=
  ⟨fun vs H Q E h => (spD_len vs H Q E h).trans hn, fun A outer s H args us vs Q E hr e0 hb hv ⟨_, _, _, _, _, _, h⟩ => h.elim⟩
theorem re_globI {X : Cx} {W : WX} {pos : Pos} {x : Str} {i : Int} {t : Tok} (hg : Gl X x) (hm : X.mg x = some (.int i t)) (hd : (x == ("__debug__" : Str)) = false := by decide) : RE X W (.Name x pos) (cV (.int i)) := re_glob (w := .int i) hg hm ⟨_, rfl⟩ (fun _ _ => rfl) hd
theorem re_globS {X : Cx} {W : WX} {pos : Pos} {x : Str} {i : Str} {t : Tok} (hg : Gl X x) (hm : X.mg x = some (.str i t)) (hd : (x == ("__debug__" : Str)) = false := by decide) : RE X W (.Name x pos) (cV (.str i)) := re_glob (w := .str i) hg hm ⟨_, rfl⟩ (fun _ _ => rfl) hd
theorem hu65_of {A : Around} {k : Nat} (hr : Room k A) : A.units + 65 < cLine := by have := hr.un; omega
theorem fn_body {x qual : Str} {st : Stmt} {f : Addr} {fd : FuncData} {N ps : List Str} {k n : Nat} {body : SM} (F : Fun K x qual st f fd) (S : FnScope N ps (defScope st)) (hn : ps.length = n)
    (h : ∀ (cdv : Value) (A : Around) (outer : List Env) (s : Shared) (H : Hp) (Q : VK) (E : XK), Room k (A.deeper (envOfC qual (defScope st) s.heap.objs.size f cdv)) →
      RSs (cxOf (L2.CX P w) P w K mg base N qual (defScope st) f cdv A outer s H E) (fun cls d _ H => E cls d H) (defBody st) body) :
    FnOk P w K mg base (L2.CX P w) (k + 1) f fd ps (spD K mg n (callS N.length body)) := by
  refine F.okX S (fun vs H Q E hh => (spD_len vs H Q E hh).trans hn.symm) fun cdv A outer s H vs Q E hr ⟨ι, Sto, qs, r, rv, l, hw⟩ => ⟨_, (h cdv A outer s H Q E hr).pss, ?_⟩
  refine ⟨ι, startE N.length qs, Sto, r, REn.start rv, ?_⟩
  unfold callS at hw
  cases hb : body (startE N.length qs) Sto with
  | nx τ S' => rw [hb] at hw; exact fun ι' H' σ' e r' _ => hw ι' H' .non e r' rfl
  | rt v S' => rw [hb] at hw; exact hw
  | er c p τ S' => rw [hb] at hw; exact fun ι' H' σ' Ca d x e r' _ m hd hp => hw ι' H' Ca d x e r' m hd hp
  | bad => rw [hb] at hw; exact hw.elim
/-- the law's promise: the script as the head hands it -/
def spLaw (K : PySem.W.Frag) (n : Nat) : Sp := fun vs H Q _ => ∃ (a : Addr) (ns : List Int), vs = [.ref a] ∧ ns.length ≤ n ∧ Only H ∧ SqL K H a (ns.map V.int) ∧ ∀ H', Q (.bl true) H'
theorem spLaw_len {K : PySem.W.Frag} {n : Nat} : ∀ vs H Q E, spLaw K n vs H Q E → vs.length = 1 := fun vs H Q E ⟨a, ns, e, _⟩ => by rw [e]; rfl
/-- the law answers True: what is left for plain Lean -/
def LawMain (n : Nat) (F : FM) : Prop := ∀ ns : List Int, ns.length ≤ n → wp (F [.fls (ns.map PV.int)] []) (fun v _ => v = .bl true) (fun _ _ _ => False)
theorem spLaw_spD {K : PySem.W.Frag} {mg : Str → Option Value} {n : Nat} {F : FM} (h : LawMain n F) (vs : List V) (H : Hp) (Q : VK) (E : XK) (s : spLaw K n vs H Q E) : spD K mg 1 F vs H Q E := by
  obtain ⟨a, ns, rfl, hn, hO, hS, hQ⟩ := s
  refine ⟨[], [], [.fls (ns.map PV.int)], ⟨rfl, List.nodup_nil, fun l a o h => by simp at h⟩, ⟨_, _, rfl, ⟨a, _, rfl, ?_, RpL.ints ns⟩, rfl⟩, rfl, wp_mono (h ns hn) (fun v S' e => ?_) (fun _ _ _ z => z.elim)⟩
  · rcases hS with (hS | hS) | hS
    · rcases hO a with z | ⟨o, xs, z⟩
      · rw [z] at hS; cases hS
      · rw [z] at hS; cases hS
    · obtain ⟨o, hS⟩ := hS
      exact .inl ⟨o, hS⟩
    · exact .inr hS
  · subst e
    intro ι' H' x _ _ r
    have r' : x = .bl true := r
    subst r'
    exact hQ H'
theorem spLaw_end {K : PySem.W.Frag} {n : Nat} {H : Hp} {a : Addr} {ns : List Int} (hn : ns.length ≤ n) (hO : Only H) (hS : SqL K H a (ns.map V.int)) : spLaw K n [.ref a] H (fun v _ => v = .bl true) fun _ _ _ => False :=
  ⟨a, ns, rfl, hn, hO, hS, fun _ => rfl⟩
theorem fn_law {P : Program} {w : World} {K : PySem.W.Frag} {mg : Str → Option Value} {base : Heap} {k n : Nat} {f : Addr} {fd : FuncData} {ps : List Str} {F : FM} (h : LawMain n F) (G : FnOk P w K mg base (L2.CX P w) k f fd ps (spD K mg 1 F)) : FnOk P w K mg base (L2.CX P w) k f fd ps (spLaw K n) :=
  G.imp fun vs H Q E s => spLaw_spD h vs H Q E s
theorem cx_end {P : Program} {w : World} {H : Hp} {s : Shared} {e : Value} {s' : Shared} (h : L2.CX P w [] H s (fun _ _ _ => False) e s') : False := by
  obtain ⟨_, _, _, _, _, _, _, _, _, _, _, _, z⟩ := h
  exact z
/-- keywords -/
theorem Fun.kbindsW {x qual : Str} {st : Stmt} {f : Addr} {fd : FuncData} {ps ks : List Str} {g : List Value → List Value → List Value} {gV : List V → List V → List V} (F : Fun K x qual st f fd)
    (h : ∀ (kV doc pm : Value) (an : Option Addr) (cdv ct : Value) (us ws : List Value), (g us ws).length = ps.length → bindArgs (PySem.W.fnOf x qual (defArgs st) (defBody st) (defScope st) .none kV doc pm an cdv ct) ⟨us, ks.zip ws⟩ = pure (ps.zip (g us ws)))
    (hrel : ∀ {vs : List V} {us : List Value} {zs : List V} {ws : List Value}, Vals vs us → Vals zs ws → Vals (gV vs zs) (g us ws)) : KBinds K fd ps ks g gV := by
  obtain ⟨oc, od, kV, doc, pm, an, cdv, ct, osl, rfl, lk, hcd⟩ := F.ex
  exact ⟨fun s us ws _ hl => .of_eq (h kV doc pm an cdv ct us ws hl), hrel⟩
end
/-- += of ints -/
def addIP : Op2 := intOp fun i j => some (.int (i + j))
theorem pip_of {X : Cx} {op : Operator} {f : Int → Int → Int} (h : PIp X op (ipI f)) : PIp X op (gOp X (intOp fun i j => some (.int (f i j)))) := by
  intro pins s σ H x y v u Q I rx ry ⟨ι, S, p, q, z, S', rs, rp, rq, hf, k⟩
  unfold intOp at hf
  split at hf
  · cases hf
    cases (show x = _ from rp)
    cases (show y = _ from rq)
    exact h pins s σ H _ _ v u Q I rx ry ⟨_, _, rfl, rfl, k _ _ _ .refl rs rfl⟩
  · cases hf
theorem pip_add {X : Cx} : PIp X .Add (gOp X addIP) := pip_of ip_add
theorem pip_sub {X : Cx} : PIp X .Sub (gOp X subP) := pip_of ip_sub
theorem kw_one {K : PySem.W.Frag} : ∀ (ι : List Addr) (H : Hp) (qs : List PV) (zs : List V) (v : V), qs.length = 1 → RpL K ι H qs zs →
    ∃ vs, (fun (us ws : List V) => match us, ws with | [u], [x0] => [u, x0] | _, _ => []) [v] zs = v :: vs ∧ RpL K ι H ((fun (qs : List PV) => match qs with | [x0] => [x0] | _ => []) qs) vs ∧ ((fun (qs : List PV) => match qs with | [x0] => [x0] | _ => []) qs).length = 1 := by
  intro ι H qs zs v hl h
  match qs, hl with
  | [p], _ =>
    obtain ⟨x, rfl, h1⟩ := rpl1 h
    exact ⟨[x], rfl, RpL.one h1, rfl⟩
theorem kw_two {K : PySem.W.Frag} : ∀ (ι : List Addr) (H : Hp) (qs : List PV) (zs : List V) (v : V), qs.length = 2 → RpL K ι H qs zs →
    ∃ vs, (fun (us ws : List V) => match us, ws with | [u], [x0, x1] => [u, x1, x0] | _, _ => []) [v] zs = v :: vs ∧ RpL K ι H ((fun (qs : List PV) => match qs with | [x0, x1] => [x1, x0] | _ => []) qs) vs ∧ ((fun (qs : List PV) => match qs with | [x0, x1] => [x1, x0] | _ => []) qs).length = 2 := by
  intro ι H qs zs v hl h
  match qs, hl with
  | [p, q], _ =>
    obtain ⟨x, y, rfl, h1, h2⟩ := rpl2 h
    exact ⟨[y, x], rfl, ⟨y, [x], rfl, h2, RpL.one h1⟩, rfl⟩
theorem kw_rel1 {vs : List V} {us : List Value} {zs : List V} {ws : List Value} (h : Vals vs us) (h' : Vals zs ws) :
    Vals ((fun (us ws : List V) => match us, ws with | [u], [x0] => [u, x0] | _, _ => []) vs zs) ((fun (us ws : List Value) => match us, ws with | [u], [x0] => [u, x0] | _, _ => []) us ws) := by
  cases h with
  | nil => exact .nil
  | cons a b =>
    cases b with
    | cons _ _ => exact .nil
    | nil =>
      cases h' with
      | nil => exact .nil
      | cons c d =>
        cases d with
        | cons _ _ => exact .nil
        | nil => exact .cons a (.cons c .nil)
theorem kw_rel2 {vs : List V} {us : List Value} {zs : List V} {ws : List Value} (h : Vals vs us) (h' : Vals zs ws) :
    Vals ((fun (us ws : List V) => match us, ws with | [u], [x0, x1] => [u, x1, x0] | _, _ => []) vs zs) ((fun (us ws : List Value) => match us, ws with | [u], [x0, x1] => [u, x1, x0] | _, _ => []) us ws) := by
  cases h with
  | nil => exact .nil
  | cons a b =>
    cases b with
    | cons _ _ => exact .nil
    | nil =>
      cases h' with
      | nil => exact .nil
      | cons c d =>
        cases d with
        | nil => exact .nil
        | cons e f =>
          cases f with
          | cons _ _ => exact .nil
          | nil => exact .cons a (.cons e (.cons c .nil))
end PL
/-! PLO: raise, try. -/
namespace PL
open PySem PySem.Spec PyProof.Rows L2
/-! ### raise -/
/-- an exception class of the program, its __init__ at fI -/
structure ExT (K : PySem.W.Frag) (mg : Str → Option Value) (c : Str) (C fI : Addr) : Prop where
  g : mg c = some (.ref C)
  o : OexC K C
  ini : PySem.W.findIn K (.ref C) "__init__" = some (some (.ref fI))
  na : PySem.W.findIn K (.ref C) "what" = some none
def spI (K : PySem.W.Frag) : Sp := fun vs H Q _ => ∃ (a C : Addr) (x : V), vs = [.ref a, x] ∧ OexC K C ∧ PySem.W.findIn K (.ref C) "what" = some none ∧ H a = some (exo a C none) ∧
  ∀ dx, H dx = none → dx ≠ a → Q .non (upd (upd H dx (exd dx [("what", x)])) a (exo a C (some dx)))
section
variable {P : Program} {w : World} {K : PySem.W.Frag} {mg : Str → Option Value} {base : Heap}
theorem fn_init {x qual : Str} {st : Stmt} {f : Addr} {fd : FuncData} {p1 p2 p3 p4 : Pos} (F : Fun K x qual st f fd) (S : FnScope ["self", "what"] ["self", "what"] (defScope st)) (hb : defBody st = [.Assign [.Attribute (.Name "self" p1) "what" p2] (.Name "what" p3) p4]) {k : Nat} :
    FnOk P w K mg base (L2.CX P w) (k + 1) f fd ["self", "what"] (spI K) := by
  refine F.okX S (fun vs H Q E ⟨a, C, x, e, _⟩ => by rw [e]; rfl) fun cdv A outer s H vs Q E hr ⟨a, C, x, e, T, na, ha, hq⟩ => ?_
  rw [hb]
  subst e
  have v1 : Vis (defScope st) "self" := (S.par "self" (by simp)).elim .inl fun h => .inr (.inl h)
  have v2 : Vis (defScope st) "what" := (S.par "what" (by simp)).elim .inl fun h => .inr (.inl h)
  refine ⟨_, pss_one (ps_ost (pe_var (i := 0) rfl v1) (pe_var (i := 1) rfl v2)), ?_⟩
  exact ⟨x, rfl, .ref a, rfl, a, C, rfl, T, na, .inl ⟨ha, fun dx n ne => hq dx n ne⟩⟩
end
def raiseS (C : Str) (m : EM PV) : SM := fun τ S => bndS (m τ S) τ fun v S1 => .er C v τ S1
section
variable {X : Cx} {W : WX} {e : Expr} {ma : EM PV} {p pos pos' : Pos}
theorem del_upd {H : Hp} {a dx : Addr} {o o' u : HO} (ha : H a = none) (hd : H dx = none) (hne : dx ≠ a) : upd (del (upd (upd (upd H a o) dx u) a o') a) dx (.xd []) = upd H dx (.xd []) ∧ ∀ x, upd (del (upd (upd (upd H a o) dx u) a o') a) dx x = upd H dx x := by
  have key : ∀ x, upd (del (upd (upd (upd H a o) dx u) a o') a) dx x = upd H dx x := by
    intro x
    funext b
    by_cases h1 : b = dx
    · subst h1; rw [upd_same, upd_same]
    · rw [upd_ne h1, upd_ne h1]
      by_cases h2 : b = a
      · subst h2; rw [del_same, ha]
      · rw [del_ne h2, upd_ne h2, upd_ne h1, upd_ne h2]
  exact ⟨key _, key⟩
theorem rs_raise {c : Str} {C fI : Addr} {fd : FuncData} {k : Nat} (T : ExT X.K X.mg c C fI) (tI : PySem.W.typeIn X.K (.ref fI) = some (.type "function")) (F1 : FnOk X.prog X.w X.K X.mg X.base (L2.CX X.prog X.w) k fI fd ["self", "what"] (spI X.K)) (hr : Room (k + 1) X.A)
    (hb : Binds X.K fd ["self", "what"] []) (hg : Gl X c) (hc : X.calm = true) (tk : Takes X W) (ha : RE X W e ma)
    (hdb : (c == ("__debug__" : Str)) = false := by decide) (he : starEach [e] X.env = (false, eval e X.env) :: starEach [] X.env := by rfl) (hpl : (backTo pos (starEach [] X.env)).any (·.1) = false := by rfl) :
    RS X W (.Raise (some (.Call (.Name c p) [e] [] pos)) none pos') (raiseS c ma) := by
  refine ⟨ps_weak (ps_raise hc tk (pmk_oex T.o T.ini tI F1 hr hb (dvs := []) .nil passL hg T.g (pa_cons ha.pe pa_nil he) hdb he hpl)) fun D σ H ⟨ι, τ, S, r, ρ, pk⟩ => ?_⟩
  refine ⟨ι, τ, S, r, ρ, (PkS.next (R := rV X) ρ pk).mono fun x H1 ⟨q, ι1, S1, e1, r1, q1, pk1⟩ => ?_⟩
  refine ⟨by simp, fun a hn => ⟨a, C, x, rfl, T.o, T.na, upd_same, fun dx hdx hne => ?_⟩⟩
  have hd1 : H1 dx = none := by rw [upd_ne hne] at hdx; exact hdx
  refine ⟨rfl, dx, [("what", x)], upd_same, by rw [upd_ne hne, upd_same], hd1, ?_⟩
  rw [(del_upd hn hd1 hne).2]
  obtain ⟨E, r2⟩ := r1.tup (ho := .xd [("what", x)]) hd1
  exact pk1 ι1 _ σ C dx x E r2 ((ρ.up e1).up E) T.g upd_same (q1.up E)
/-! ### try -/
def noErS (o : OS) : OS := match o with
  | .er _ _ _ _ => .bad
  | o => o
def tryS (cs : List (Str × Bool)) (b : SM) (h : Str → PV → SM) : SM := fun τ S => match b τ S with
  | .er c p τ1 S1 => (match cs.lookup c with | some true => noErS (h c p τ1 S1) | some false => .er c p τ1 S1 | none => .bad)
  | o => o
theorem noEr_any {W W' : WX} {D : Ends} {ι : List Addr} {H : Hp} {o : OS} (h : PkS X W D ι H (noErS o)) : PkS X W' D ι H o := by
  cases o with
  | nx τ S => exact h
  | rt v S => exact h
  | er c p τ S => exact h.elim
  | bad => exact h
theorem try_read {cs : List (Str × Bool)} {m : SM} {h : Str → PV → SM} {W Wout : WX} {D : Ends} {ι : List Addr} {H : Hp} {τ : En} {S : Sto}
    (hw : ∀ c p τ1 S1 ι' H' σ' Ca d x, Ext ι H ι' H' → RSt X.K X.mg ι' H' S1 → REn X.K ι' H' τ1 σ' → X.mg c = some (.ref Ca) → H' d = some (.xd [("what", x)]) → Rp X.K ι' H' p x →
      (cs.lookup c = some true → PkS X Wout D ι' H' (noErS (h c p τ1 S1)) → W (.ref Ca) (some d) σ' H') ∧ (cs.lookup c = some false → Wout (.ref Ca) (some d) σ' H' → W (.ref Ca) (some d) σ' H'))
    (pk : PkS X Wout D ι H (tryS cs m h τ S)) : PkS X W D ι H (m τ S) := by
  unfold tryS at pk
  cases hm : m τ S with
  | nx τ S => rw [hm] at pk; exact pk
  | rt v S => rw [hm] at pk; exact pk
  | bad => rw [hm] at pk; exact pk
  | er c p τ1 S1 =>
    rw [hm] at pk
    simp only at pk
    intro ι' H' σ' Ca d x e r ρ hm hd hp
    obtain ⟨h1, h2⟩ := hw c p τ1 S1 ι' H' σ' Ca d x e r ρ hm hd hp
    cases hl : cs.lookup c with
    | none => rw [hl] at pk; exact pk.elim
    | some b =>
      rw [hl] at pk
      cases b with
      | true => exact h1 hl (PkS.up pk e)
      | false => exact h2 hl (pk ι' H' σ' Ca d x e r ρ hm hd hp)
abbrev noW : WX := fun _ _ _ _ => False
theorem rs_tryOnly {x : Str} {c : Value} {body suite : List Stmt} {b₀ : Stmt} {np : Pos} {cs : List (Str × Bool)} {m mh : SM} (hs : X.stack = X.env :: X.outer) (hf : X.env.frame = some X.env.locals) (hc : Names X x c) (tk : Takes X W)
    (hcs : ∀ c' b, cs.lookup c' = some b → ∀ Ca, X.mg c' = some (.ref Ca) → PySem.W.exmOne X.K (.ref Ca) c = some b)
    (hb : ∀ (W : WX) (pn : List (Addr × Obj)) (xe : Value → Shared → Prop), Takes (X.tr pn xe) W → PassesOwn (model X.prog X.w) X.A X.env xe → RSs (X.tr pn xe) W body m)
    (hsu : ∀ (a : Addr) (pn : List (Addr × Obj)), RSs (X.suite a pn) noW (b₀ :: suite) mh) :
    RS X W (.Try body [.ExceptHandler (some (.Name x np)) none (b₀ :: suite) pos'] [] [] pos) (tryS cs m fun _ _ => mh) := by
  refine ⟨ps_weak (ps_try_only hs hf hc tk (tb := fun W => gS X W m) (ts := fun _ _ _ => gS X noW mh) (fun W pn xe tk po => (hb W pn xe tk po).pss) (fun a oe cls d pn _ _ => (hsu a _).pss)) fun D σ H ⟨ι, τ, S, r, ρ, pk⟩ => ?_⟩
  refine ⟨ι, τ, S, r, ρ, try_read (fun c' p τ1 S1 ι' H' σ' Ca d y e r' ρ' hm hd hp => ⟨fun hl pk' => ⟨true, hcs c' _ hl Ca hm, fun _ a ha => ⟨ι', τ1, S1, r', ρ', noEr_any pk'⟩, fun z => by cases z⟩, fun hl w => ⟨false, hcs c' _ hl Ca hm, fun z => by (cases z), fun _ => w⟩⟩) pk⟩
end
/-! ### what a suite reads of the exception -/
structure FX (X : Cx) (cs : List (Str × Bool)) (a : Addr) (cls : Value) (d : Option Addr) (i : Nat) (ι : List Addr) (H : Hp) (S : Sto) (σ : L2.St) (c : Str) (p : PV) (x : V) (dd Ca : Addr) : Prop where
  r : RSt X.K X.mg ι H S
  at_ : σ[i]? = some (some (.ref a))
  m : X.mg c = some (.ref Ca)
  cl : cls = .ref Ca
  ed : d = some dd
  hd : H dd = some (.xd [("what", x)])
  rp : Rp X.K ι H p x
  lk : cs.lookup c = some true
theorem OR.no_xd {K : PySem.W.Frag} {mg : Str → Option Value} {ι : List Addr} {H : Hp} {a : Addr} {o : Ob} {fs : List (Str × V)} (h : OR K mg ι H a o) (e : H a = some (.xd fs)) : False := by
  cases o with
  | lst xs => obtain ⟨vs, q, _⟩ := h; rw [e] at q; cases q
  | dct kvs => obtain ⟨vs, q, _⟩ := h; rw [e] at q; cases q
  | ins C fs => obtain ⟨Ca, dx, ws, _, q, _⟩ := h; rw [e] at q; cases q
theorem FX.up {X : Cx} {cs : List (Str × Bool)} {a : Addr} {cls : Value} {d : Option Addr} {i : Nat} {ι ι' : List Addr} {H H' : Hp} {S : Sto} {σ : L2.St} {c : Str} {p : PV} {x : V} {dd Ca : Addr} (f : FX X cs a cls d i ι H S σ c p x dd Ca)
    (e : Ext ι H ι' H') (r : RSt X.K X.mg ι' H' S) : FX X cs a cls d i ι' H' S σ c p x dd Ca := by
  have hn : dd ∉ ι := fun h => by
    obtain ⟨l, o, _, _, ho⟩ := f.r.mem h
    exact ho.no_xd f.hd
  exact ⟨r, f.at_, f.m, f.cl, f.ed, e.fr dd _ f.hd hn, f.rp.up e, f.lk⟩
def gX (X : Cx) (cs : List (Str × Bool)) (a : Addr) (cls : Value) (d : Option Addr) (i : Nat) (v : Str → PV → PV) : TE := fun σ H Q => ∃ ι S c p x dd Ca, FX X cs a cls d i ι H S σ c p x dd Ca ∧ ∀ ι' H' y, Ext ι H ι' H' → RSt X.K X.mg ι' H' S → Rp X.K ι' H' (v c p) y → Q y H'
def gXL (X : Cx) (cs : List (Str × Bool)) (a : Addr) (cls : Value) (d : Option Addr) (i : Nat) (v : Str → PV → List PV) : TA := fun σ H Q => ∃ ι S c p x dd Ca, FX X cs a cls d i ι H S σ c p x dd Ca ∧ ∀ ι' H' y, Ext ι H ι' H' → RSt X.K X.mg ι' H' S → RpL X.K ι' H' (v c p) y → Q y H'
/-- an item of the suite's list: for whatever exception is caught -/
def RX (X : Cx) (cs : List (Str × Bool)) (i : Nat) (e : Expr) (v : Str → PV → PV) : Prop := ∀ (a : Addr) (oe : Obj) (cls : Value) (d : Option Addr) (pn : List (Addr × Obj)), Zc cls d oe → (∃ vs, oe.data = .fields vs) → PE (X.suite a ((a, oe) :: pn)) e (gX X cs a cls d i v)
def RXL (X : Cx) (cs : List (Str × Bool)) (i : Nat) (es : List Expr) (v : Str → PV → List PV) : Prop := ∀ (a : Addr) (oe : Obj) (cls : Value) (d : Option Addr) (pn : List (Addr × Obj)), Zc cls d oe → (∃ vs, oe.data = .fields vs) → PA (X.suite a ((a, oe) :: pn)) es (gXL X cs a cls d i v)
section
variable {X : Cx} {W : WX} {cs : List (Str × Bool)} {i : Nat} {e : Expr} {es : List Expr} {v : Str → PV → PV} {vs : Str → PV → List PV} {pos : Pos}
theorem rx_nil : RXL X cs i [] fun _ _ => [] := fun a oe cls d pn hz hf => pa_weak pa_nil fun σ H Q ⟨ι, S, c, p, x, dd, Ca, f, k⟩ => k ι H [] .refl f.r rfl
theorem rx_cons (h : RX X cs i e v) (ht : RXL X cs i es vs) (hs : ∀ a pn, starEach (e :: es) (X.suite a pn).env = (false, eval e (X.suite a pn).env) :: starEach es (X.suite a pn).env := by intro _ _; rfl) : RXL X cs i (e :: es) fun c p => v c p :: vs c p := by
  intro a oe cls d pn hz hf
  refine pa_weak (pa_cons (h a oe cls d pn hz hf) (ht a oe cls d pn hz hf) (hs _ _)) fun σ H Q ⟨ι, S, c, p, x, dd, Ca, f, k⟩ => ?_
  refine ⟨ι, S, c, p, x, dd, Ca, f, fun ι1 H1 y e1 r1 q1 => ?_⟩
  refine ⟨ι1, S, c, p, x, dd, Ca, f.up e1 r1, fun ι2 H2 ys e2 r2 q2 => ?_⟩
  exact k ι2 H2 (y :: ys) (e1.trans e2) r2 ⟨y, ys, rfl, q1.up e2, q2⟩
theorem rx_cst {v : PV} {w : V} (h : ∀ X : Cx, PE X e (tC w)) (r0 : ∀ ι H, Rp X.K ι H v w) : RX X cs i e fun _ _ => v := fun a oe cls d pn hz hf => pe_weak (h _) fun σ H Q ⟨ι, S, c, p, x, dd, Ca, f, k⟩ => k ι H w .refl f.r (r0 _ _)
theorem rx_str {x j} : RX X cs i (.Constant (.str x) j pos) fun _ _ => .str x := rx_cst (fun X => pe_str) fun _ _ => rfl
theorem rx_non {j} : RX X cs i (.Constant .none j pos) fun _ _ => .non := rx_cst (fun X => pe_non) fun _ _ => rfl
theorem rx_false {P : L2.St → Hp → VK → Prop} {Y : Cx} (h : ∀ σ H Q, ¬ P σ H Q) : PE Y e P := ⟨fun pins s σ H Q I z => (h σ H Q z).elim⟩
/-- e.what -/
theorem rx_what {n : Str} {np : Pos} (hN : X.N[i]? = some n) (hv : Vis X.env.scope n) (hC : ∀ c Ca, cs.lookup c = some true → X.mg c = some (.ref Ca) → XfC X.K Ca ∧ PySem.W.findIn X.K (.ref Ca) "what" = some none)
    (hd1 : (n == ("__debug__" : Str)) = false := by decide) (hcd : (n == ("__classdict__" : Str)) = false := by decide)
    (hb : ∀ a pn, attributeBase (.Name n np) "what" (X.suite a pn).env (eval (.Name n np) (X.suite a pn).env) = eval (.Name n np) (X.suite a pn).env := by intro _ _; rfl) :
    RX X cs i (.Attribute (.Name n np) "what" pos) fun _ p => p := by
  intro a oe cls d pn hz hf
  by_cases hk : ∃ c Ca, cs.lookup c = some true ∧ X.mg c = some (.ref Ca) ∧ cls = .ref Ca
  · obtain ⟨c0, Ca0, k1, k2, rfl⟩ := hk
    obtain ⟨T, hno⟩ := hC c0 Ca0 k1 k2
    refine pe_weak (pe_xf (X := X) (C := Ca0) T hno hz hf (pe_var (i := i) hN hv hd1 hcd) (hb a ((a, oe) :: pn))) fun σ H Q ⟨ι, S, c, p, x, dd, Ca, f, k⟩ => ?_
    exact ⟨.ref a, f.at_, rfl, rfl, dd, _, x, f.ed, f.hd, by simp, k ι H x .refl f.r f.rp⟩
  · exact rx_false fun σ H Q ⟨ι, S, c, p, x, dd, Ca, f, k⟩ => hk ⟨c, Ca, f.lk, f.m, f.cl⟩
/-- isinstance of an own exception with fields -/
theorem call_isEd {a D dd : Addr} {oe : Obj} {pn : List (Addr × Obj)} (C : ExcC X.K D) (hz : Zc (.ref D) (some dd) oe) (hf : ∃ vs, oe.data = .fields vs) : CallR (X.suite a ((a, oe) :: pn)) (.builtin "isinstance") (fun xs H Q => ∃ (c : V) (cv : Value) (b : Bool) (fs : List (Str × V)), xs = [.ref a, c] ∧ ClsV c cv ∧ H dd = some (.xd fs) ∧ PySem.W.kitOne X.K (.ref D) cv = some b ∧ Q (.bl b) H) := by
  intro pins s σ H xs us Q I r h
  obtain ⟨c, cv, b, fs, rfl, hcv, hx, e, q⟩ := h
  obtain ⟨u1, u2, rfl, r1, r2⟩ := vals2 r
  cases (show u1 = Value.ref a from r1)
  have ec := hcv.eq r2
  subst ec
  obtain ⟨hget, _⟩ := I.pin (a, oe) (List.mem_append.mpr (.inl List.mem_cons_self))
  obtain ⟨vs, hv⟩ := hf
  have hx' : ObjOk X.prog X.w H s.heap dd (.xd fs) := I.hok dd _ hx
  obtain ⟨mA, hns, hr⟩ := hx'
  obtain ⟨od, ho, hl⟩ := lookIn_ns hns
  have J : PySem.W.InstAt s.heap a oe D (some od) := ⟨hget, hz.1, by unfold PySem.W.notCls; rw [hv] <;> rfl, by rw [hz.2]; exact ho⟩
  obtain ⟨cd, hc, _⟩ := PySem.W.any_some C.hd
  have hcl : (PySem.W.clsIn X.K D).isSome = true := by rw [hc]; rfl
  exact PySem.W.kia_one (PySem.W.kitx_exc (od := some od) hcl C.hg C.hk C.hs C.ha C.hn C.ht C.hm) I.kIn J e (fun z => nomatch z) fun tk => ⟨.bl b, H, I.tok tk, rfl, q⟩
theorem call_isEdT {a D dd : Addr} {oe : Obj} {pn : List (Addr × Obj)} (C : ExcC X.K D) (hz : Zc (.ref D) (some dd) oe) (hf : ∃ vs, oe.data = .fields vs) : CallR (X.suite a ((a, oe) :: pn)) (.builtin "isinstance") (fun xs H Q => ∃ (tp : Addr) (cs : List V) (us : List Value) (b : Bool) (fs : List (Str × V)), xs = [.ref a, .ref tp] ∧ H tp = some (.tup cs) ∧ Paired ClsV cs us ∧ H dd = some (.xd fs) ∧ PySem.W.kitAny X.K (.ref D) us = some b ∧ Q (.bl b) H) := by
  intro pins s σ H xs us Q I r h
  obtain ⟨tp, cs, ws, b, fs, rfl, hT, hcv, hx, e, q⟩ := h
  obtain ⟨u1, u2, rfl, r1, r2⟩ := vals2 r
  cases (show u1 = Value.ref a from r1)
  cases (show u2 = Value.ref tp from r2)
  obtain ⟨hget, _⟩ := I.pin (a, oe) (List.mem_append.mpr (.inl List.mem_cons_self))
  obtain ⟨vs, hv⟩ := hf
  have hx' : ObjOk X.prog X.w H s.heap dd (.xd fs) := I.hok dd _ hx
  obtain ⟨mA, hns, hr⟩ := hx'
  obtain ⟨od, ho, hl⟩ := lookIn_ns hns
  have J : PySem.W.InstAt s.heap a oe D (some od) := ⟨hget, hz.1, by unfold PySem.W.notCls; rw [hv] <;> rfl, by rw [hz.2]; exact ho⟩
  obtain ⟨cd, hc, _⟩ := PySem.W.any_some C.hd
  have hcl : (PySem.W.clsIn X.K D).isSome = true := by rw [hc]; rfl
  obtain ⟨_, its, rv, o, h1, h2, n, h3⟩ := (show ObjOk X.prog X.w H s.heap tp (.tup cs) from I.hok tp _ hT)
  have e3 := ClsV.all hcv rv
  subst e3
  obtain ⟨oc, od', dt, sl⟩ := o
  simp only at h2 h3
  subst h2 h3
  exact PySem.W.kia_tup (PySem.W.kitx_exc (od := some od) hcl C.hg C.hk C.hs C.ha C.hn C.ht C.hm) I.kIn J h1 e (fun z => nomatch z) fun tk => ⟨.bl b, H, I.tok tk, rfl, q⟩
/-- a name of a class -/
def ClsE (X : Cx) (e : Expr) (w : V) : Prop := ∀ a pn, PE (X.suite a pn) e (tC w)
theorem clsE_own {x : Str} {p : Pos} {D : Addr} (hg : Gl X x) (hm : X.mg x = some (.ref D)) (hd : (x == ("__debug__" : Str)) = false := by decide) : ClsE X (.Name x p) (.ref D) := fun a pn => pe_glob (X := X.suite a pn) hg hm rfl hd
theorem clsE_ty {x : Str} {p : Pos} {T : String} (hg : Gl X x) (hm : X.mg x = none) (hv : bootBuiltins x = some (.type T)) (hn : x ≠ "__name__" := by decide) (hd : (x == ("__debug__" : Str)) = false := by decide) : ClsE X (.Name x p) (.ty T) := fun a pn => pe_bltn (X := X.suite a pn) hg hm hv rfl hn hd
theorem rx_isi {n : Str} {np p : Pos} {ce : Expr} {w : V} {cv : Value} {is : Str → Bool} (hN : X.N[i]? = some n) (hv : Vis X.env.scope n) (hg : Gl X "isinstance") (hm : X.mg "isinstance" = none) (hce : ClsE X ce w) (hw : ClsV w cv)
    (hC : ∀ c Ca, cs.lookup c = some true → X.mg c = some (.ref Ca) → ExcC X.K Ca ∧ PySem.W.kitOne X.K (.ref Ca) cv = some (is c)) (hbt : bootBuiltins "isinstance" = some (.builtin "isinstance") := by decide +kernel)
    (hd1 : (n == ("__debug__" : Str)) = false := by decide) (hcd : (n == ("__classdict__" : Str)) = false := by decide)
    (he : ∀ a pn, starEach [.Name n np, ce] (X.suite a pn).env = (false, eval (.Name n np) (X.suite a pn).env) :: starEach [ce] (X.suite a pn).env := by intro _ _; rfl) (he2 : ∀ a pn, starEach [ce] (X.suite a pn).env = (false, eval ce (X.suite a pn).env) :: starEach [] (X.suite a pn).env := by intro _ _; rfl)
    (hpl : ∀ a pn, (backTo pos (starEach [ce] (X.suite a pn).env)).any (·.1) = false := by intro _ _; rfl) :
    RX X cs i (.Call (.Name "isinstance" p) [.Name n np, ce] [] pos) fun c _ => .bl (is c) := by
  intro a oe cls d pn hz hf
  by_cases hk : ∃ c Ca dd, cs.lookup c = some true ∧ X.mg c = some (.ref Ca) ∧ cls = .ref Ca ∧ d = some dd
  · obtain ⟨c0, Ca0, dd0, k1, k2, rfl, rfl⟩ := hk
    obtain ⟨T, hkit⟩ := hC c0 Ca0 k1 k2
    refine pe_weak (pe_callB (call_isEd T hz hf) hg hm hbt (pa_cons (pe_var (i := i) hN hv hd1 hcd) (pa_cons (hce _ _) pa_nil (he2 _ _)) (he _ _)) (by decide) (by decide) (he _ _) (hpl _ _)) fun σ H Q ⟨ι, S, c, q, x, dd, Ca, f, k⟩ => ?_
    have e1 := f.cl
    cases e1
    have e2 := f.ed
    cases e2
    exact ⟨.ref a, f.at_, w, cv, is c, _, rfl, hw, f.hd, (hC c Ca0 f.lk f.m).2, k ι H _ .refl f.r rfl⟩
  · exact rx_false fun σ H Q ⟨ι, S, c, p, x, dd, Ca, f, k⟩ => hk ⟨c, Ca, dd, f.lk, f.m, f.cl, f.ed⟩
/-- names of classes -/
def ClsL (X : Cx) (es : List Expr) (ws : List V) : Prop := ∀ a pn, PA (X.suite a pn) es fun _ H Q => Q ws H
theorem clsL_nil : ClsL X [] [] := fun a pn => pa_nil
theorem clsL_cons {w : V} {ws : List V} (h : ClsE X e w) (ht : ClsL X es ws) (hs : ∀ a pn, starEach (e :: es) (X.suite a pn).env = (false, eval e (X.suite a pn).env) :: starEach es (X.suite a pn).env := by intro _ _; rfl) : ClsL X (e :: es) (w :: ws) := fun a pn => pa_cons (h a pn) (ht a pn) (hs a pn)
theorem rx_isiT {n : Str} {np p tp : Pos} {k0} {ces : List Expr} {ws : List V} {cvs : List Value} {is : Str → Bool} (hN : X.N[i]? = some n) (hv : Vis X.env.scope n) (hg : Gl X "isinstance") (hm : X.mg "isinstance" = none) (hce : ClsL X ces ws) (hw : Paired ClsV ws cvs) (hl : ws.length ≤ 1000)
    (hC : ∀ c Ca, cs.lookup c = some true → X.mg c = some (.ref Ca) → ExcC X.K Ca ∧ PySem.W.kitAny X.K (.ref Ca) cvs = some (is c)) (hbt : bootBuiltins "isinstance" = some (.builtin "isinstance") := by decide +kernel)
    (hd1 : (n == ("__debug__" : Str)) = false := by decide) (hcd : (n == ("__classdict__" : Str)) = false := by decide)
    (he : ∀ a pn, starEach [.Name n np, .Tuple ces k0 tp] (X.suite a pn).env = (false, eval (.Name n np) (X.suite a pn).env) :: starEach [.Tuple ces k0 tp] (X.suite a pn).env := by intro _ _; rfl)
    (he2 : ∀ a pn, starEach [.Tuple ces k0 tp] (X.suite a pn).env = (false, eval (.Tuple ces k0 tp) (X.suite a pn).env) :: starEach [] (X.suite a pn).env := by intro _ _; rfl)
    (hpl : ∀ a pn, (backTo pos (starEach [.Tuple ces k0 tp] (X.suite a pn).env)).any (·.1) = false := by intro _ _; rfl) :
    RX X cs i (.Call (.Name "isinstance" p) [.Name n np, .Tuple ces k0 tp] [] pos) fun c _ => .bl (is c) := by
  intro a oe cls d pn hz hf
  by_cases hk : ∃ c Ca dd, cs.lookup c = some true ∧ X.mg c = some (.ref Ca) ∧ cls = .ref Ca ∧ d = some dd
  · obtain ⟨c0, Ca0, dd0, k1, k2, rfl, rfl⟩ := hk
    obtain ⟨T, hkit⟩ := hC c0 Ca0 k1 k2
    refine pe_weak (pe_callB (call_isEdT T hz hf) hg hm hbt (pa_cons (pe_var (i := i) hN hv hd1 hcd) (pa_cons (pe_tup (hce _ _)) pa_nil (he2 _ _)) (he _ _)) (by decide) (by decide) (he _ _) (hpl _ _)) fun σ H Q ⟨ι, S, c, q, x, dd, Ca, f, k⟩ => ?_
    have e1 := f.cl
    cases e1
    have e2 := f.ed
    cases e2
    refine ⟨.ref a, f.at_, by rw [sizeLine_eq]; omega, fun t ht => ?_⟩
    obtain ⟨E, r2⟩ := f.r.tup (ho := .tup ws) ht
    have f2 := f.up E r2
    exact ⟨t, ws, cvs, is c, _, rfl, upd_same, hw, f2.hd, (hC c Ca0 f.lk f.m).2, k ι _ _ E r2 rfl⟩
  · exact rx_false fun σ H Q ⟨ι, S, c, p, x, dd, Ca, f, k⟩ => hk ⟨c, Ca, dd, f.lk, f.m, f.cl, f.ed⟩
theorem REn.len {K : PySem.W.Frag} {ι : List Addr} {H : Hp} : ∀ {τ : En} {σ : L2.St}, REn K ι H τ σ → τ.length = σ.length
  | [], _, h => by have h : _ = [] := h; subst h; rfl
  | none :: τ, _, h => by
    obtain ⟨r, rfl, q⟩ := h
    simp [REn.len q]
  | some x :: τ, _, h => by
    obtain ⟨v, r, rfl, _, q⟩ := h
    simp [REn.len q]
/-- the suite: one list is made of it -/
def asgL (i j : Nat) (vs : List PV) : SM := fun τ S => if vs.length ≤ 16777216 ∧ i < τ.length then .nx ((τ.set j (some (.loc S.length))).set i none) (S ++ [.lst vs]) else .bad
theorem REn.set2 {K : PySem.W.Frag} {ι : List Addr} {H : Hp} : ∀ {τ : En} {σ : L2.St} {x : PV} {v w : V} (i j : Nat), i ≠ j → REn K ι H τ σ → Rp K ι H x v → REn K ι H ((τ.set j (some x)).set i none) (((σ.set i (some w)).set j (some v)).set i none) := by
  intro τ σ x v w i j hij h hx
  rw [List.set_comm _ _ hij, List.set_set]
  rw [List.set_comm _ _ (Ne.symm hij)]
  rw [List.set_comm _ _ hij]
  exact (h.set j hx).unset i
theorem rs_tryAsL {x n y : Str} {c : Value} {body : List Stmt} {np yp lp ap pos' : Pos} {m : SM} {j : Nat} (hs : X.stack = X.env :: X.outer) (hf : X.env.frame = some X.env.locals) (hN : X.N.Nodup) (hi : X.N[i]? = some n) (hln : X.env.kindOf n = some .local) (hc : Names X x c) (tk : Takes X W)
    (hcs : ∀ c' b, cs.lookup c' = some b → ∀ Ca, X.mg c' = some (.ref Ca) → PySem.W.exmOne X.K (.ref Ca) c = some b)
    (hb : ∀ (W : WX) (pn : List (Addr × Obj)) (xe : Value → Shared → Prop), Takes (X.tr pn xe) W → PassesOwn (model X.prog X.w) X.A X.env xe → RSs (X.tr pn xe) W body m)
    (hij : i ≠ j) (hj : X.N[j]? = some y) (hy : Loc X.env.scope y) (hit : RXL X cs i es vs) (hsw : ∀ a pn, swapsWith (.List es lp) (some (.Name y yp)) ap.line (X.suite a pn).env = pure false := by intro _ _; rfl)
    (hfy : X.fn y = true ∨ X.env.scope.names.lookup y = some .local := by first | exact .inl rfl | exact .inr rfl | assumption) :
    RS X W (.Try body [.ExceptHandler (some (.Name x np)) (some n) [.Assign [.Name y yp] (.List es lp) ap] pos'] [] [] pos) (tryS cs m fun c p => asgL i j (vs c p)) := by
  refine ⟨ps_weak (ps_try_as hs hf hN hi hln hc tk (i := i) (tb := fun W => gS X W m) (ts := fun a cls d => tAsg (tLst (gXL X cs a cls d i vs)) (gName j)) (fun W pn xe tk po => (hb W pn xe tk po).pss)
    (fun a oe cls d pn hz hfl => pss_one (ps_set (X := X.suite a ((a, oe) :: pn)) hN hj hy (pe_lst (hit a oe cls d pn hz hfl)) (hsw _ _) hfy))) fun D σ H ⟨ι, τ, S, r, ρ, pk⟩ => ?_⟩
  refine ⟨ι, τ, S, r, ρ, try_read (fun c' p τ1 S1 ι' H' σ' Ca d z e r' ρ' hm hd hp => ⟨fun hl pk' => ⟨true, hcs c' _ hl Ca hm, fun _ a ha => ?_, fun z => by cases z⟩, fun hl w => ⟨false, hcs c' _ hl Ca hm, fun z => by (cases z), fun _ => w⟩⟩) pk⟩
  unfold asgL at pk'
  by_cases hl2 : (vs c' p).length ≤ 16777216 ∧ i < τ1.length
  · rw [if_pos hl2] at pk'
    have hil : i < σ'.length := by rw [← ρ'.len]; exact hl2.2
    refine ⟨ι', S1, c', p, z, d, Ca, ⟨r', by rw [List.getElem?_set_self hil], hm, rfl, rfl, hd, hp, hl⟩, fun ι2 H2 ys e2 r2 q2 => ⟨by rw [← q2.length, sizeLine_eq]; exact hl2.1, fun pp hpp => ?_⟩⟩
    obtain ⟨E, r3, q3⟩ := r2.new_lst hpp q2
    exact pk' _ _ _ (e2.trans E) r3 (REn.set2 i j hij ((ρ'.up e2).up E) q3)
  · rw [if_neg hl2] at pk'
    exact pk'.elim
end
end PL
namespace PL
open PySem PySem.Spec PyProof.Rows L2
theorem cs_nil {P : Str → Bool → Prop} : ∀ c b, ([] : List (Str × Bool)).lookup c = some b → P c b := fun c b h => by simp at h
theorem cs_cons {P : Str → Bool → Prop} {c0 : Str} {b0 : Bool} {cs : List (Str × Bool)} (h : P c0 b0) (ht : ∀ c b, cs.lookup c = some b → P c b) : ∀ c b, ((c0, b0) :: cs).lookup c = some b → P c b := by
  intro c b hl
  rw [List.lookup_cons] at hl
  split at hl
  · rename_i e
    have e' : c = c0 := by simpa using e
    cases hl
    subst e'
    exact h
  · exact ht c b hl
theorem ex_of {mg : Str → Option Value} {c : Str} {C : Addr} {Q : Addr → Prop} (g : mg c = some (.ref C)) (h : Q C) : ∀ Ca, mg c = some (.ref Ca) → Q Ca := fun Ca e => by
  rw [g] at e
  cases e
  exact h
theorem csT {mg : Str → Option Value} {cs : List (Str × Bool)} {Q : Str → Addr → Prop} (h : ∀ c b, cs.lookup c = some b → b = true → ∀ Ca, mg c = some (.ref Ca) → Q c Ca) : ∀ c Ca, cs.lookup c = some true → mg c = some (.ref Ca) → Q c Ca := fun c Ca hl hm => h c true hl rfl Ca hm
end PL
/-! PLQ: dict of a list of pairs; names out of a list. -/
namespace PL
open PySem PySem.Spec PyProof.Rows L2
def pairP : PV → Option (Key × PV)
  | .tup [k, v] => (keyP k).map fun kk => (kk, v)
  | _ => none
def pairsP : List PV → Option (List (Key × PV))
  | [] => some []
  | x :: xs => (pairP x).bind fun p => (pairsP xs).map fun ps => p :: ps
def mergeP (kvs more : List (Key × PV)) : List (Key × PV) := more.foldl (fun acc kv => putP acc kv.1 kv.2) kvs
def dictLP (p : PV) (S : Sto) : Option (PV × Sto) := match p with
  | .loc l => match S[l]? with
    | some (.lst xs) => (pairsP xs).map fun kvs => (.loc S.length, S ++ [.dct (mergeP [] kvs)])
    | _ => none
  | _ => none
theorem keyP_rp {K : PySem.W.Frag} {ι : List Addr} {H : Hp} {k : PV} {kk : Key} {v : V} (h : keyP k = some kk) (r : Rp K ι H k v) : v = kV kk := by
  cases k with
  | int i => cases h; exact r
  | str x => cases h; exact r
  | _ => cases h
theorem pairs_rp {K : PySem.W.Frag} {ι : List Addr} {H : Hp} : ∀ {xs : List PV} {kvs : List (Key × PV)} {vs : List V}, pairsP xs = some kvs → RpL K ι H xs vs →
    ∃ (ps : List Addr) (ws : List (Key × V)), vs = ps.map V.ref ∧ Paired (fun p kv => SqT K H p [kV kv.1, kv.2]) ps ws ∧ RpF K ι H kvs ws
  | [], kvs, vs, h, r => by cases h; cases (show vs = [] from r); exact ⟨[], [], rfl, .nil, rfl⟩
  | x :: xs, kvs, vs, h, r => by
    obtain ⟨v, rs, rfl, r1, r2⟩ := r
    simp only [pairsP, Option.bind_eq_some_iff, Option.map_eq_some_iff] at h
    obtain ⟨p, hp, ps, hps, rfl⟩ := h
    obtain ⟨as, ws, rfl, h2, h3⟩ := pairs_rp hps r2
    unfold pairP at hp
    split at hp
    · rename_i k y
      simp only [Option.map_eq_some_iff] at hp
      obtain ⟨kk, hk, rfl⟩ := hp
      obtain ⟨a, us, rfl, q1, q2⟩ := r1
      obtain ⟨u1, us1, rfl, q3, q4⟩ := q2
      obtain ⟨u2, us2, rfl, q5, q6⟩ := q4
      cases (show us2 = [] from q6)
      have := keyP_rp hk q3
      subst this
      exact ⟨a :: as, (kk, u2) :: ws, rfl, .cons q1.seq h2, u2, ws, rfl, q5, h3⟩
    · cases hp
theorem RpF.merge {K : PySem.W.Frag} {ι : List Addr} {H : Hp} : ∀ {more : List (Key × PV)} {ws : List (Key × V)} {kvs : List (Key × PV)} {vs : List (Key × V)}, RpF K ι H more ws → RpF K ι H kvs vs → RpF K ι H (mergeP kvs more) (mergeK vs ws)
  | [], ws, kvs, vs, h, q => by cases (show ws = [] from h); exact q
  | (k, x) :: more, ws, kvs, vs, h, q => by
    obtain ⟨v, w, rfl, h1, h2⟩ := h
    show RpF K ι H (mergeP (putP kvs k x) more) (mergeK (putK vs k v) w)
    exact RpF.merge h2 (q.put h1)
theorem kit_sub {K : PySem.W.Frag} {C D : Addr} {b : Bool} (hd : PySem.W.hasDictIn K D = true) (ht : PySem.W.typeIn K (.ref D) = some (.type "type")) (h : PySem.W.subIn K (.ref C) (.ref D) = some b) (hn : (Value.ref C == Value.ref D) = false) : PySem.W.kitOne K (.ref C) (.ref D) = some b := by
  obtain ⟨cd, hc, _⟩ := PySem.W.any_some hd
  have e2 : ((PySem.W.clsIn K D).isSome && PySem.W.typeIn K (.ref D) == some (.type "type")) = true := by rw [hc, ht] <;> rfl
  unfold PySem.W.kitOne
  rw [hn, if_neg Bool.false_ne_true]
  show (if ((PySem.W.clsIn K D).isSome && PySem.W.typeIn K (.ref D) == some (.type "type")) = true then PySem.W.subIn K (.ref C) (.ref D) else none) = some b
  rw [if_pos e2]
  exact h
theorem kit_subT {K : PySem.W.Frag} {C : Addr} {T : String} {b : Bool} (hm : PySem.W.kitMeta T = true) (h : PySem.W.subIn K (.ref C) (.type T) = some b) : PySem.W.kitOne K (.ref C) (.type T) = some b := by
  unfold PySem.W.kitOne
  rw [show (Value.ref C == Value.type T) = false from rfl, if_neg Bool.false_ne_true]
  show (if PySem.W.kitMeta T = true then PySem.W.subIn K (.ref C) (.type T) else none) = some b
  rw [if_pos hm]
  exact h
section
variable {X : Cx} {W : WX} {e : Expr} {ma : EM PV} {pos : Pos}
theorem cr_dictL (hcalm : X.calm = true) : CallR X (.type "dict") (gCall X (on1 dictLP)) := cr_on1 fun pins s σ H us Q ι S p x v S' I r rs rp hf k => by
  unfold dictLP at hf
  split at hf
  · rename_i l
    split at hf
    · rename_i xs hS
      simp only [Option.map_eq_some_iff, Prod.mk.injEq] at hf
      obtain ⟨kvs, hk, rfl, rfl⟩ := hf
      obtain ⟨a, rfl, h1⟩ := rp
      obtain ⟨vs, h2, h3⟩ := rs.obj _ a _ h1 hS
      obtain ⟨ps, ws, rfl, h4, h5⟩ := pairs_rp hk h3
      refine call_dictP hcalm pins s σ H _ us Q I r ⟨a, ps, ws, rfl, .inl (.inl h2), h4, fun q hq => ?_⟩
      obtain ⟨E, r4, q4⟩ := rs.new_dct hq (RpF.merge h5 (kvs := []) (vs := []) rfl)
      exact k _ _ _ E r4 q4
    · cases hf
  · cases hf
def asgLS (n : Nat) (m : EM PV) (g : GMs) : SM := fun τ S => bndS (m τ S) τ fun v S1 => match v with
  | .loc l => (match S1[l]? with
    | some (.lst xs) => if xs.length = n then (match g xs τ with | some τ1 => .nx τ1 S1 | none => .bad) else .bad
    | _ => .bad)
  | _ => .bad
theorem rs_asgL {es : List Expr} {k n : Nat} {tp : Pos} {g : GMs} {sl : List Nat} (he : RE X W e ma) (hg : RGs X es g sl) (hc : X.calm = true := by rfl) (hn : (assignEach es X.env).length = n := by rfl) (hst : (assignEach es X.env).findIdx? (·.1) = none := by rfl)
    (hs : swapsWithSole [.Tuple es k tp] e pos.line X.env = pure false := by rfl) (hw : swappedStores [.Tuple es k tp] e X.env = pure none := by rfl)
    (h1 : (assignEach [.Tuple es k tp] X.env).map (·.2) = [assign (.Tuple es k tp) X.env] := by rfl) : RS X W (.Assign [.Tuple es k tp] e pos) (asgLS n ma g) := by
  refine ⟨ps_weak (ps_asg he.pe (pg_lst hc hg.pgs hn hst) hs hw h1) fun D σ H h => ?_⟩
  obtain ⟨ι, τ, S, r, ρ, pk⟩ := h
  refine ⟨ι, τ, S, r, ρ, (PkS.next (R := rV X) ρ pk).mono fun x H1 ⟨p, ι1, S1, e1, r1, q1, pk1⟩ => ?_⟩
  cases p with
  | loc l =>
    simp only at pk1
    cases hS : S1[l]? with
    | none => rw [hS] at pk1; exact pk1.elim
    | some o =>
      rw [hS] at pk1
      cases o with
      | lst xs =>
        simp only at pk1
        by_cases hl : xs.length = n
        · rw [if_pos hl] at pk1
          obtain ⟨a, rfl, h1⟩ := q1
          obtain ⟨vs, h2, h3⟩ := r1.obj _ a _ h1 hS
          cases hgx : g xs τ with
          | none => rw [hgx] at pk1; exact pk1.elim
          | some τ1 =>
            rw [hgx] at pk1
            exact ⟨a, vs, rfl, .inl (.inl h2), by rw [← h3.length]; exact hl, ι1, τ, S1, xs, τ1, r1, ρ.up e1, h3, hgx, fun σ' ρ' _ => pk1 _ _ σ' .refl r1 ρ'⟩
        · rw [if_neg hl] at pk1; exact pk1.elim
      | _ => exact pk1.elim
  | _ => exact pk1.elim
end
end PL
set_option maxHeartbeats 2000000
/-! PLS: list * int, str.index. -/
namespace PL
open PySem PySem.Spec PyProof.Rows L2
theorem q_mul_int (l : Addr) (items : Array Value) (n : Nat) (d : Option Addr) (sl : Array (Option Value)) (x : Int) (u : Tok) (hc0 : ¬(!Builtin.List.listFitsIndex x) = true)
    (hc1 : ¬items.size * x.toNat > (2 ^ 63 - 1) / 8) (hc2 : ¬Builtin.List.listTooLong (items.size * x.toNat) = true) :
    Meets (Builtin.«list.__mul__» ⟨[.ref l, .int x u], []⟩) (fun _ R s => s.heap.get? l = some { cls := .type "list", dict := d, data := .seq items n, slots := sl } ∧ R (.ok (.ret (Value.ref s.heap.objs.size))) { s with heap := s.heap.push { cls := Value.type "list", data := Data.seq (List.foldl (fun x1 x2 => x1 ++ x2) #[] (List.replicate (if items.isEmpty = true then 0 else x.toNat) items)) }, toks := s.toks }) :=
  .of_wp fun prog w A R s h => by
    obtain ⟨hp, g, d, tk, os⟩ := s; obtain ⟨hl, h⟩ := h
    have hsz := AutoListH.joined_fits hc2
    wp_walk; refine wpAny_ite_false (decide_eq_false (Nat.not_lt.mpr hsz)) ?_; wp_walk; exact ⟨_, rfl, h⟩
theorem q_rmul_int (a : Int) (t : Tok) (l : Addr) (items : Array Value) (n : Nat) (d : Option Addr) (sl : Array (Option Value)) :
    Meets (Builtin.«int.__rmul__» ⟨[.int a t, .ref l], []⟩) (fun _ R s => s.heap.get? l = some { cls := .type "list", dict := d, data := .seq items n, slots := sl } ∧ R (.ok (.ret Value.notImplemented)) s) :=
  .of_wp fun prog w A R s h => by obtain ⟨hp, g, d, tk, os⟩ := s; obtain ⟨hl, h⟩ := h; wp_walk; exact ⟨_, rfl, h⟩
theorem vals_rep {xs : List V} {its : List Value} (r : Vals xs its) : ∀ n : Nat, Vals (List.replicate n xs).flatten (List.replicate n its).flatten
  | 0 => .nil
  | n + 1 => by rw [List.replicate_succ, List.replicate_succ, List.flatten_cons, List.flatten_cons]; exact r.append (vals_rep r n)
theorem len_rep {α : Type} (xs : List α) : ∀ n : Nat, (List.replicate n xs).flatten.length = xs.length * n
  | 0 => by simp
  | n + 1 => by rw [List.replicate_succ, List.flatten_cons, List.length_append, len_rep xs n, Nat.mul_succ]; omega
theorem op_mul_li {X : Cx} : OpR X (binaryOp .Mult) (fun x y H Q => ∃ (a : Addr) (xs : List V) (k : Int), x = V.ref a ∧ y = V.int k ∧ SqL X.K H a xs ∧ k ≤ 1000 ∧ xs.length * k.toNat ≤ 16777216 ∧ (0 ≤ k) ∧ ∀ p, H p = none → Q (.ref p) (upd H p (.lst (List.replicate k.toNat xs).flatten))) := by
  intro pins s σ H x y v u Q I rx ry h
  obtain ⟨a, xs, k, rfl, rfl, hs, hk, hz2, hk0, q⟩ := h
  obtain rfl : v = Value.ref a := rx
  obtain ⟨t, rfl⟩ := ry
  obtain ⟨its, rv, ⟨⟨cls, dd, data, sl⟩, n, ho, hc, hdn, hd⟩, hlen⟩ := I.list hs
  have hc1 : cls = Value.type "list" := hc
  have hd1 : data = Data.seq its.toArray n := hd
  subst hc1 hd1
  have hsl := sizeLine_eq
  have hle : its.length = xs.length := rv.length.symm
  have hm : its.toArray.size * k.toNat ≤ 16777216 := by
    rw [List.size_toArray, hle]; exact hz2
  refine wpAny_binaryOp_repeat_ref (T := "list") (U := "int") (by decide) ⟨_, ho, rfl⟩ (fun s' => rfl) noFill_list_mul F.fills_int_mul F.slot_int_rmul repeat_list F.slot_int_index.lookup
    (call_meets F.slot_int_rmul rfl F.entry_int_rmul (F.args_int_rmul_2 _ _) (q_rmul_int k t a its.toArray n dd sl)
      ⟨ho, rfl, ⟨_, ho, rfl⟩, call_meets F.slot_list_mul ⟨_, ho, rfl⟩ F.entry_list_mul (F.args_list_mul_2 _ _)
        (q_mul_int a its.toArray n dd sl k t (by simp [Builtin.List.listFitsIndex]; omega) (by omega) (by simp only [Builtin.List.listTooLong, decide_eq_true_eq]; omega))
        ⟨ho, ?_⟩⟩)
  have e : List.foldl (fun x1 x2 => x1 ++ x2) #[] (List.replicate (if its.toArray.isEmpty = true then 0 else k.toNat) its.toArray) = (List.replicate k.toNat its).flatten.toArray := by
    rw [listMul_foldl_if]
  rw [e]
  refine ⟨.ref s.heap.objs.size, upd H s.heap.objs.size (.lst (List.replicate k.toNat xs).flatten), I.laid (t' := s.toks) (fun b o e => Heap.get?_push_of_some _ e) (Nat.le_refl _) ⟨?_, _, 0, vals_rep rv _, Heap.get?_push_size _ rfl⟩, rfl, q _ (I.hok.fresh (Nat.le_refl _))⟩
  rw [len_rep, hsl]; exact hz2
def mulLP : Op2 := fun p q S => match p, q with
  | .loc l, .int k => (match S[l]? with
    | some (.lst xs) => if 0 ≤ k ∧ k ≤ 1000 ∧ xs.length * k.toNat ≤ 16777216 then some (.loc S.length, S ++ [.lst (List.replicate k.toNat xs).flatten]) else none
    | _ => none)
  | _, _ => none
theorem RpL.rep {K : PySem.W.Frag} {ι : List Addr} {H : Hp} {xs : List PV} {vs : List V} (h : RpL K ι H xs vs) : ∀ n : Nat, RpL K ι H (List.replicate n xs).flatten (List.replicate n vs).flatten
  | 0 => rfl
  | n + 1 => by rw [List.replicate_succ, List.replicate_succ, List.flatten_cons, List.flatten_cons]; exact h.app (RpL.rep h n)
theorem og_mulL {X : Cx} : OpR X (binaryOp .Mult) (gOp X mulLP) := by
  intro pins s σ H x y v u Q I rx ry ⟨ι, S, p, q, z, S', rs, rp, rq, hf, k⟩
  unfold mulLP at hf
  split at hf
  · rename_i l n
    split at hf
    · rename_i xs hS
      split at hf
      · rename_i hc
        cases hf
        obtain ⟨a, rfl, h1⟩ := rp
        cases (show y = _ from rq)
        obtain ⟨vs, h2, h3⟩ := rs.obj _ a _ h1 hS
        refine op_mul_li pins s σ H _ _ v u Q I rx ry ⟨a, vs, n, rfl, rfl, .inl (.inl h2), hc.2.1, by rw [← h3.length]; exact hc.2.2, hc.1, fun p hp => ?_⟩
        obtain ⟨E, r4, q4⟩ := rs.new_lst hp (h3.rep n.toNat)
        exact k _ _ _ E r4 q4
      · cases hf
    · cases hf
  · cases hf
def sindexP : OpM := fun p ps S => match p, ps with
  | .str a, [.str b] => (match Builtin.Str.occurrences a b 0 a.length 1 with
    | i :: _ => some (.int ((i : Nat) : Int), S)
    | [] => none)
  | _, _ => none
theorem om_sindex {X : Cx} : MtR X "str.index" (gMt X sindexP) := by
  intro pins s σ H x xs v us Q I rx rxs ⟨ι, S, p, ps, w, S', rs, rp, rps, hf, k⟩
  unfold sindexP at hf
  split at hf
  · rename_i a b
    split at hf
    · rename_i i rest ho
      cases hf
      cases (show x = _ from rp)
      obtain ⟨y, rfl, h2⟩ := rpl1 rps
      cases (show y = _ from h2)
      exact mt_sindex pins s σ H _ _ v us Q I rx rxs ⟨a, b, i, rest, rfl, rfl, ho, k _ _ _ .refl rs rfl⟩
    · cases hf
  · cases hf
end PL
/-! PLV: reasoning about mirrors: evaluation rows, loops, frames, plain values. -/
namespace PL
open PySem PySem.Spec PyProof.Rows L2
/-! ### evaluation: continuations are constants, so that simp works at the head alone -/
section
variable {α β : Type}
def wK (f : α → Sto → Out β) (P : β → Sto → Prop) (R : Str → PV → Sto → Prop) : α → Sto → Prop := fun a S => wp (f a S) P R
def wKS (f : α → Sto → OS) (N : En → Sto → Prop) (T : PV → Sto → Prop) (R : Str → PV → En → Sto → Prop) : α → Sto → Prop := fun a S => wpS (f a S) N T R
def rK (R : Str → PV → En → Sto → Prop) (τ : En) : Str → PV → Sto → Prop := fun c p S => R c p τ S
def sK (k : SM) (N : En → Sto → Prop) (T : PV → Sto → Prop) (R : Str → PV → En → Sto → Prop) : En → Sto → Prop := fun τ S => wpS (k τ S) N T R
def nonK (P : PV → Sto → Prop) : En → Sto → Prop := fun _ S => P .non S
def dropK (R : Str → PV → Sto → Prop) : Str → PV → En → Sto → Prop := fun c p _ S => R c p S
def noK : Str → PV → Sto → Prop := fun _ _ _ => False
def newK (P : PV → Sto → Prop) : List PV → Sto → Prop := fun acc S => P (.loc S.length) (S ++ [.lst acc])
@[simp] theorem e_bnd (o : Out α) (f : α → Sto → Out β) (P : β → Sto → Prop) (R : Str → PV → Sto → Prop) : wp (bnd o f) P R = wp o (wK f P R) R := wp_bnd o f P R
@[simp] theorem e_bndS (o : Out α) (τ : En) (f : α → Sto → OS) (N : En → Sto → Prop) (T : PV → Sto → Prop) (R : Str → PV → En → Sto → Prop) : wpS (bndS o τ f) N T R = wp o (wKS f N T R) (rK R τ) := wpS_bndS o τ f N T R
@[simp] theorem e_seqO (o : OS) (k : SM) (N : En → Sto → Prop) (T : PV → Sto → Prop) (R : Str → PV → En → Sto → Prop) : wpS (seqO o k) N T R = wpS o (sK k N T R) T R := wpS_seqO o k N T R
@[simp] theorem e_wK (f : α → Sto → Out β) (P : β → Sto → Prop) (R : Str → PV → Sto → Prop) (a : α) (S : Sto) : wK f P R a S = wp (f a S) P R := rfl
@[simp] theorem e_wKS (f : α → Sto → OS) (N : En → Sto → Prop) (T : PV → Sto → Prop) (R : Str → PV → En → Sto → Prop) (a : α) (S : Sto) : wKS f N T R a S = wpS (f a S) N T R := rfl
@[simp] theorem e_rK (R : Str → PV → En → Sto → Prop) (τ : En) (c : Str) (p : PV) (S : Sto) : rK R τ c p S = R c p τ S := rfl
@[simp] theorem e_sK (k : SM) (N : En → Sto → Prop) (T : PV → Sto → Prop) (R : Str → PV → En → Sto → Prop) (τ : En) (S : Sto) : sK k N T R τ S = wpS (k τ S) N T R := rfl
@[simp] theorem e_nonK (P : PV → Sto → Prop) (τ : En) (S : Sto) : nonK P τ S = P .non S := rfl
@[simp] theorem e_dropK (R : Str → PV → Sto → Prop) (c : Str) (p : PV) (τ : En) (S : Sto) : dropK R c p τ S = R c p S := rfl
@[simp] theorem e_noK (c : Str) (p : PV) (S : Sto) : noK c p S = False := rfl
@[simp] theorem e_newK (P : PV → Sto → Prop) (acc : List PV) (S : Sto) : newK P acc S = P (.loc S.length) (S ++ [.lst acc]) := rfl
@[simp] theorem e_noEr (o : Out α) (P : α → Sto → Prop) (R : Str → PV → Sto → Prop) : wp (noEr o) P R = wp o P noK := by cases o <;> rfl
@[simp] theorem e_newL (o : Out (List PV)) (P : PV → Sto → Prop) (R : Str → PV → Sto → Prop) : wp (newL o) P R = wp o (newK P) R := by cases o <;> rfl
theorem callS_wp {n : Nat} {b : SM} {ps : List PV} {S : Sto} {P : PV → Sto → Prop} {R : Str → PV → Sto → Prop} : wp (callS n b ps S) P R = wpS (b (startE n ps) S) (nonK P) P (dropK R) := by
  unfold callS
  cases b (startE n ps) S <;> rfl
@[simp] theorem wp_ite {c : Prop} [Decidable c] {a b : Out α} {P : α → Sto → Prop} {R : Str → PV → Sto → Prop} : wp (if c then a else b) P R ↔ ((c → wp a P R) ∧ (¬ c → wp b P R)) := by
  split <;> simp_all
@[simp] theorem wpS_ite {c : Prop} [Decidable c] {a b : OS} {N : En → Sto → Prop} {T : PV → Sto → Prop} {R : Str → PV → En → Sto → Prop} : wpS (if c then a else b) N T R ↔ ((c → wpS a N T R) ∧ (¬ c → wpS b N T R)) := by
  split <;> simp_all
/-! outcomes read off -/
def retO : PV → Sto → Out PV := fun v S => .ok v S
def blO : PV → Sto → Out Bool := fun v S => match v with | .bl b => .ok b S | _ => .bad
def truO : PV → Sto → Out Bool := fun p S => match truP p S with | some b => .ok b S | none => .bad
def isNO : PV → Sto → Out PV := fun p S => .ok (.bl (isNon p)) S
def notNO : PV → Sto → Out PV := fun p S => .ok (.bl (!isNon p)) S
def notO : Bool → Sto → Out Bool := fun k S => .ok (!k) S
def notVO : PV → Sto → Out PV := fun v S => match v with | .bl k => .ok (.bl (!k)) S | _ => .bad
def oSO : PV → Sto → Out (Option Int) := fun p S => match p with | .int i => .ok (some i) S | _ => .bad
def tupO : List PV → Sto → Out PV := fun ps S => if ps.length ≤ 16777216 then .ok (.tup ps) S else .bad
def lstO : List PV → Sto → Out PV := fun ps S => if ps.length ≤ 16777216 then .ok (.loc S.length) (S ++ [.lst ps]) else .bad
def opO (f : Op2) (p : PV) : PV → Sto → Out PV := fun q S => lift (f p q S)
def unO (f : PV → Sto → Option (PV × Sto)) : PV → Sto → Out PV := fun p S => lift (f p S)
def callO (f : OpN) : List PV → Sto → Out PV := fun ps S => lift (f ps S)
def isiO (T : String) : PV → Sto → Out PV := fun p S => match isiP T p S with | some b => .ok (.bl b) S | none => .bad
def seqMO : PV → Sto → Out Wk := fun p S => match itrP p S with | some t => .ok t S | none => .bad
noncomputable def rng1O : PV → Sto → Out Wk := fun p S => match p with | .int n => if rngOk n then .ok ⟨rngI 0 n, []⟩ S else .bad | _ => .bad
noncomputable def rng2O (p : PV) : PV → Sto → Out Wk := fun q S => match p, q with | .int a, .int b => if rngOk a ∧ rngOk b then .ok ⟨rngI a b, []⟩ S else .bad | _, _ => .bad
def enumO : PV → Sto → Out Wk := fun p S1 => match p with
  | .fls xs => .ok ⟨enumI xs, []⟩ S1
  | .loc l => match S1[l]? with | some (.lst xs) => .ok ⟨enumI xs, [(l, xs)]⟩ S1 | _ => .bad
  | _ => .bad
def consO (p : PV) : List PV → Sto → Out (List PV) := fun ps S => .ok (p :: ps) S
def fldO (C f : Str) : PV → Sto → Out PV := fun p S1 => match p with
  | .loc l => match S1[l]? with
    | some (.ins C' fs) => if C' = C then (match fs.lookup f with | some v => .ok v S1 | none => .bad) else .bad
    | _ => .bad
  | _ => .bad
def setLenO : PV → Sto → Out PV := fun p S1 => match p with
  | .tup xs => (match keysP xs with | some ks => if ks.length ≤ 4000 then .ok (.int (onceK [] ks).length) S1 else .bad | none => .bad)
  | _ => .bad
def ownLenO : PV → Sto → Out PV := fun v S => match v with | .int n => if 0 ≤ n ∧ n < 4611686018427387904 then .ok (.int n) S else .bad | _ => .bad
def madeO (l : Nat) : PV → Sto → Out PV := fun v S => match v with | .non => .ok (.loc l) S | _ => .bad
def nxO (τ : En) : PV → Sto → OS := fun _ S => .nx τ S
def rtO : PV → Sto → OS := fun v S => .rt v S
def asgO (g : GM) (τ : En) : PV → Sto → OS := fun v S => match g v τ with | some τ1 => .nx τ1 S | none => .bad
def setO3 (τ : En) (v o : PV) : PV → Sto → OS := fun i S => match setP o i v S with | some S4 => .nx τ S4 | none => .bad
def setfO (C f : Str) (τ : En) (v : PV) : PV → Sto → OS := fun p S2 => match p with
  | .loc l => match S2[l]? with
    | some (.ins C' fs) => if C' = C ∧ fs.length < 1000 then .nx τ (S2.set l (.ins C (putG f v fs))) else .bad
    | _ => .bad
  | _ => .bad
def augO (i : Nat) (τ : En) (f : Op2) (x : PV) : PV → Sto → OS := fun y S => match f x y S with | some (z, S2) => .nx (τ.set i (some z)) S2 | none => .bad
/-! what is done next -/
def bin1 (f : Op2) (b : EM PV) (τ : En) : PV → Sto → Out PV := fun p S => bnd (b τ S) (opO f p)
def ch1 (f f' : Op2) (b c : EM PV) (τ : En) : PV → Sto → Out PV := fun p S => bnd (b τ S) fun q S2 => bnd (lift (f p q S2)) fun v S3 =>
  match v with | .bl true => bnd (c τ S3) fun z S4 => lift (f' q z S4) | .bl false => .ok (.bl false) S3 | _ => .bad
def ch2 (f f' : Op2) (c : EM PV) (τ : En) (p : PV) : PV → Sto → Out PV := fun q S2 => bnd (lift (f p q S2)) fun v S3 =>
  match v with | .bl true => bnd (c τ S3) fun z S4 => lift (f' q z S4) | .bl false => .ok (.bl false) S3 | _ => .bad
def ch3 (f' : Op2) (c : EM PV) (τ : En) (q : PV) : PV → Sto → Out PV := fun v S3 => match v with | .bl true => bnd (c τ S3) fun z S4 => lift (f' q z S4) | .bl false => .ok (.bl false) S3 | _ => .bad
def andO (t : EM Bool) (τ : En) : Bool → Sto → Out Bool := fun k S => if k = true then t τ S else .ok false S
def orO (t : EM Bool) (τ : En) : Bool → Sto → Out Bool := fun k S => if k = true then .ok true S else t τ S
def andVO (t : EM PV) (τ : En) : PV → Sto → Out PV := fun v S => match v with | .bl true => t τ S | .bl false => .ok (.bl false) S | _ => .bad
def orVO (t : EM PV) (τ : En) : PV → Sto → Out PV := fun v S => match v with | .bl true => .ok (.bl true) S | .bl false => t τ S | _ => .bad
def orTO (t : EM PV) (τ : En) : PV → Sto → Out PV := fun v S => match truP v S with | some true => .ok v S | some false => t τ S | none => .bad
def ifO {γ : Type} (s t : EM γ) (τ : En) : Bool → Sto → Out γ := fun k S => if k = true then s τ S else t τ S
def aC1 (ms : EM (List PV)) (τ : En) : PV → Sto → Out (List PV) := fun p S => bnd (ms τ S) (consO p)
def sl1 (lo hi : EM (Option Int)) (τ : En) : PV → Sto → Out PV := fun p S => bnd (lo τ S) fun l S2 => bnd (hi τ S2) fun h S3 => lift (slP p l h S3)
def sl2 (hi : EM (Option Int)) (τ : En) (p : PV) : Option Int → Sto → Out PV := fun l S => bnd (hi τ S) fun h S3 => lift (slP p l h S3)
def sl3 (p : PV) (l : Option Int) : Option Int → Sto → Out PV := fun h S => lift (slP p l h S)
def mt1 (T : String) (f : OpM) (ms : EM (List PV)) (τ : En) : PV → Sto → Out PV := fun p S1 => if isTy T p S1 = true then bnd (ms τ S1) fun ps S2 => lift (f p ps S2) else .bad
def mt2 (f : OpM) (p : PV) : List PV → Sto → Out PV := fun ps S => lift (f p ps S)
noncomputable def rng2a (m' : EM PV) (τ : En) : PV → Sto → Out Wk := fun p S1 => bnd (m' τ S1) (rng2O p)
noncomputable def comp1 (g : GM) (tt : EM Bool) (el : EM PV) (vs : List Nat) (τ : En) : Wk → Sto → Out PV := fun t S1 => newL (accL t g (stepE tt el) [] t.items (wipeE τ vs) S1)
noncomputable def comp2a (g : GM) (tt : EM Bool) (m1 : EM Wk) (g1 : GM) (tt1 : EM Bool) (el : EM PV) (vs vs1 : List Nat) (τ : En) : Wk → Sto → Out PV := fun t S1 => newL (accL t g (stepI tt m1 g1 tt1 el vs1) [] t.items (wipeE τ vs) S1)
def m2a (f : PV → PV → PV → Sto → Option (PV × Sto)) (ma mb : EM PV) (τ : En) : PV → Sto → Out PV := fun d S1 => if isDct d S1 = true then bnd (ma τ S1) fun k S2 => bnd (mb τ S2) fun x S3 => lift (f d k x S3) else .bad
def m2b (f : PV → PV → PV → Sto → Option (PV × Sto)) (mb : EM PV) (τ : En) (d : PV) : PV → Sto → Out PV := fun k S2 => bnd (mb τ S2) fun x S3 => lift (f d k x S3)
def m2c (f : PV → PV → PV → Sto → Option (PV × Sto)) (d k : PV) : PV → Sto → Out PV := fun x S3 => lift (f d k x S3)
def m1a (f : PV → PV → Sto → Option (PV × Sto)) (ma : EM PV) (τ : En) : PV → Sto → Out PV := fun d S1 => if isDct d S1 = true then bnd (ma τ S1) fun k S2 => lift (f d k S2) else .bad
def m1b (f : PV → PV → Sto → Option (PV × Sto)) (d : PV) : PV → Sto → Out PV := fun k S2 => lift (f d k S2)
def meth1 (C m : Str) (F : FM) (g : List PV → List PV) (ms : EM (List PV)) (τ : En) : PV → Sto → Out PV := fun p S1 => if isIns C m p S1 = true then bnd (ms τ S1) fun ps S2 => F (p :: g ps) S2 else .bad
def meth2 (F : FM) (g : List PV → List PV) (p : PV) : List PV → Sto → Out PV := fun ps S2 => F (p :: g ps) S2
def make1 (C : Str) (F : FM) (g : List PV → List PV) : List PV → Sto → Out PV := fun ps S1 => bnd (F (.loc S1.length :: g ps) (S1 ++ [.ins C []])) (madeO S1.length)
def own1 (C : Str) (F : FM) : PV → Sto → Out PV := fun p S1 => if isIns C "" p S1 = true then bnd (F [p] S1) ownLenO else .bad
def ifK (s t : SM) (τ : En) : Bool → Sto → OS := fun k S => if k = true then s τ S else t τ S
def setO1 (mo mi : EM PV) (τ : En) : PV → Sto → OS := fun v S1 => bndS (mo τ S1) τ fun o S2 => bndS (mi τ S2) τ fun i S3 => match setP o i v S3 with | some S4 => .nx τ S4 | none => .bad
def setO2 (mi : EM PV) (τ : En) (v : PV) : PV → Sto → OS := fun o S2 => bndS (mi τ S2) τ fun i S3 => match setP o i v S3 with | some S4 => .nx τ S4 | none => .bad
def setf1 (C f : Str) (mo : EM PV) (τ : En) : PV → Sto → OS := fun v S => bndS (mo τ S) τ (setfO C f τ v)
noncomputable def for1 (g : GM) (b : SM) (τ : En) : Wk → Sto → OS := fun t S1 => forL t g b t.items τ S1
def step1 (el : EM PV) (acc : List PV) (τ : En) : Bool → Sto → Out (List PV) := fun k S1 => if k = true then bnd (noEr (el τ S1)) fun y S2 => if acc.length < 16777216 then .ok (acc ++ [y]) S2 else .bad else .ok acc S1
def step2 (acc : List PV) : PV → Sto → Out (List PV) := fun y S2 => if acc.length < 16777216 then .ok (acc ++ [y]) S2 else .bad
noncomputable def stepI1 (m1 : EM Wk) (g1 : GM) (tt1 : EM Bool) (el : EM PV) (vs1 : List Nat) (acc : List PV) (τ : En) : Bool → Sto → Out (List PV) := fun k S1 => if k = true then bnd (noEr (m1 τ S1)) fun t1 S2 => accL t1 g1 (stepE tt1 el) acc t1.items (wipeE τ vs1) S2 else .ok acc S1
noncomputable def stepI2 (g1 : GM) (tt1 : EM Bool) (el : EM PV) (vs1 : List Nat) (acc : List PV) (τ : En) : Wk → Sto → Out (List PV) := fun t1 S2 => accL t1 g1 (stepE tt1 el) acc t1.items (wipeE τ vs1) S2
@[simp] theorem e_retO (v : PV) (S : Sto) : retO v S = .ok v S := rfl
@[simp] theorem e_blO (b : Bool) (S : Sto) : blO (.bl b) S = .ok b S := rfl
@[simp] theorem e_truO (p : PV) (S : Sto) : truO p S = match truP p S with | some b => .ok b S | none => .bad := rfl
@[simp] theorem e_isNO (p : PV) (S : Sto) : isNO p S = .ok (.bl (isNon p)) S := rfl
@[simp] theorem e_notNO (p : PV) (S : Sto) : notNO p S = .ok (.bl (!isNon p)) S := rfl
@[simp] theorem e_notO (k : Bool) (S : Sto) : notO k S = .ok (!k) S := rfl
@[simp] theorem e_notVO (k : Bool) (S : Sto) : notVO (.bl k) S = .ok (.bl (!k)) S := rfl
@[simp] theorem e_oSO (i : Int) (S : Sto) : oSO (.int i) S = .ok (some i) S := rfl
@[simp] theorem e_tupO (ps : List PV) (S : Sto) : tupO ps S = if ps.length ≤ 16777216 then .ok (.tup ps) S else .bad := rfl
@[simp] theorem e_lstO (ps : List PV) (S : Sto) : lstO ps S = if ps.length ≤ 16777216 then .ok (.loc S.length) (S ++ [.lst ps]) else .bad := rfl
@[simp] theorem e_opO (f : Op2) (p q : PV) (S : Sto) : opO f p q S = lift (f p q S) := rfl
@[simp] theorem e_unO (f : PV → Sto → Option (PV × Sto)) (p : PV) (S : Sto) : unO f p S = lift (f p S) := rfl
@[simp] theorem e_callO (f : OpN) (ps : List PV) (S : Sto) : callO f ps S = lift (f ps S) := rfl
@[simp] theorem e_isiO (T : String) (p : PV) (S : Sto) : isiO T p S = match isiP T p S with | some b => .ok (.bl b) S | none => .bad := rfl
@[simp] theorem e_seqMO (p : PV) (S : Sto) : seqMO p S = match itrP p S with | some t => .ok t S | none => .bad := rfl
@[simp] theorem e_rng1O (n : Int) (S : Sto) : rng1O (.int n) S = if rngOk n then .ok ⟨rngI 0 n, []⟩ S else .bad := rfl
@[simp] theorem e_rng2O (a b : Int) (S : Sto) : rng2O (.int a) (.int b) S = if rngOk a ∧ rngOk b then .ok ⟨rngI a b, []⟩ S else .bad := rfl
@[simp] theorem e_enumO (p : PV) (S1 : Sto) : enumO p S1 = match p with | .fls xs => .ok ⟨enumI xs, []⟩ S1 | .loc l => (match S1[l]? with | some (.lst xs) => .ok ⟨enumI xs, [(l, xs)]⟩ S1 | _ => .bad) | _ => .bad := rfl
@[simp] theorem e_consO (p : PV) (ps : List PV) (S : Sto) : consO p ps S = .ok (p :: ps) S := rfl
@[simp] theorem e_fldO (C f : Str) (l : Nat) (S1 : Sto) : fldO C f (.loc l) S1 = match S1[l]? with | some (.ins C' fs) => if C' = C then (match fs.lookup f with | some v => .ok v S1 | none => .bad) else .bad | _ => .bad := rfl
@[simp] theorem e_setLenO (xs : List PV) (S1 : Sto) : setLenO (.tup xs) S1 = match keysP xs with | some ks => if ks.length ≤ 4000 then .ok (.int (onceK [] ks).length) S1 else .bad | none => .bad := rfl
@[simp] theorem e_ownLenO (n : Int) (S : Sto) : ownLenO (.int n) S = if 0 ≤ n ∧ n < 4611686018427387904 then .ok (.int n) S else .bad := rfl
@[simp] theorem e_madeO (l : Nat) (S : Sto) : madeO l .non S = .ok (.loc l) S := rfl
@[simp] theorem e_nxO (τ : En) (p : PV) (S : Sto) : nxO τ p S = .nx τ S := rfl
@[simp] theorem e_rtO (v : PV) (S : Sto) : rtO v S = .rt v S := rfl
@[simp] theorem e_asgO (g : GM) (τ : En) (v : PV) (S : Sto) : asgO g τ v S = match g v τ with | some τ1 => .nx τ1 S | none => .bad := rfl
@[simp] theorem e_setO3 (τ : En) (v o i : PV) (S : Sto) : setO3 τ v o i S = match setP o i v S with | some S4 => .nx τ S4 | none => .bad := rfl
@[simp] theorem e_setfO (C f : Str) (τ : En) (v : PV) (l : Nat) (S2 : Sto) : setfO C f τ v (.loc l) S2 = match S2[l]? with | some (.ins C' fs) => if C' = C ∧ fs.length < 1000 then .nx τ (S2.set l (.ins C (putG f v fs))) else .bad | _ => .bad := rfl
@[simp] theorem e_augO (i : Nat) (τ : En) (f : Op2) (x y : PV) (S : Sto) : augO i τ f x y S = match f x y S with | some (z, S2) => .nx (τ.set i (some z)) S2 | none => .bad := rfl
@[simp] theorem e_bin1 (f : Op2) (b : EM PV) (τ : En) (p : PV) (S : Sto) : bin1 f b τ p S = bnd (b τ S) (opO f p) := rfl
@[simp] theorem e_ch1 (f f' : Op2) (b c : EM PV) (τ : En) (p : PV) (S : Sto) : ch1 f f' b c τ p S = bnd (b τ S) (ch2 f f' c τ p) := rfl
@[simp] theorem e_ch2 (f f' : Op2) (c : EM PV) (τ : En) (p q : PV) (S : Sto) : ch2 f f' c τ p q S = bnd (lift (f p q S)) (ch3 f' c τ q) := rfl
@[simp] theorem e_ch3 (f' : Op2) (c : EM PV) (τ : En) (q : PV) (b : Bool) (S : Sto) : ch3 f' c τ q (.bl b) S = if b = true then bnd (c τ S) (opO f' q) else .ok (.bl false) S := by cases b <;> rfl
@[simp] theorem e_andO (t : EM Bool) (τ : En) (k : Bool) (S : Sto) : andO t τ k S = if k = true then t τ S else .ok false S := rfl
@[simp] theorem e_orO (t : EM Bool) (τ : En) (k : Bool) (S : Sto) : orO t τ k S = if k = true then .ok true S else t τ S := rfl
@[simp] theorem e_andVO (t : EM PV) (τ : En) (k : Bool) (S : Sto) : andVO t τ (.bl k) S = if k = true then t τ S else .ok (.bl false) S := by cases k <;> rfl
@[simp] theorem e_orVO (t : EM PV) (τ : En) (k : Bool) (S : Sto) : orVO t τ (.bl k) S = if k = true then .ok (.bl true) S else t τ S := by cases k <;> rfl
@[simp] theorem e_orTO (t : EM PV) (τ : En) (v : PV) (S : Sto) : orTO t τ v S = match truP v S with | some true => .ok v S | some false => t τ S | none => .bad := rfl
@[simp] theorem e_ifO {γ : Type} (s t : EM γ) (τ : En) (k : Bool) (S : Sto) : ifO s t τ k S = if k = true then s τ S else t τ S := rfl
@[simp] theorem e_aC1 (ms : EM (List PV)) (τ : En) (p : PV) (S : Sto) : aC1 ms τ p S = bnd (ms τ S) (consO p) := rfl
@[simp] theorem e_sl1 (lo hi : EM (Option Int)) (τ : En) (p : PV) (S : Sto) : sl1 lo hi τ p S = bnd (lo τ S) (sl2 hi τ p) := rfl
@[simp] theorem e_sl2 (hi : EM (Option Int)) (τ : En) (p : PV) (l : Option Int) (S : Sto) : sl2 hi τ p l S = bnd (hi τ S) (sl3 p l) := rfl
@[simp] theorem e_sl3 (p : PV) (l h : Option Int) (S : Sto) : sl3 p l h S = lift (slP p l h S) := rfl
@[simp] theorem e_mt1 (T : String) (f : OpM) (ms : EM (List PV)) (τ : En) (p : PV) (S : Sto) : mt1 T f ms τ p S = if isTy T p S = true then bnd (ms τ S) (mt2 f p) else .bad := rfl
@[simp] theorem e_mt2 (f : OpM) (p : PV) (ps : List PV) (S : Sto) : mt2 f p ps S = lift (f p ps S) := rfl
@[simp] theorem e_rng2a (m' : EM PV) (τ : En) (p : PV) (S : Sto) : rng2a m' τ p S = bnd (m' τ S) (rng2O p) := rfl
@[simp] theorem e_comp1 (g : GM) (tt : EM Bool) (el : EM PV) (vs : List Nat) (τ : En) (t : Wk) (S : Sto) : comp1 g tt el vs τ t S = newL (accL t g (stepE tt el) [] t.items (wipeE τ vs) S) := rfl
@[simp] theorem e_comp2a (g : GM) (tt : EM Bool) (m1 : EM Wk) (g1 : GM) (tt1 : EM Bool) (el : EM PV) (vs vs1 : List Nat) (τ : En) (t : Wk) (S : Sto) : comp2a g tt m1 g1 tt1 el vs vs1 τ t S = newL (accL t g (stepI tt m1 g1 tt1 el vs1) [] t.items (wipeE τ vs) S) := rfl
@[simp] theorem e_m2a (f : PV → PV → PV → Sto → Option (PV × Sto)) (ma mb : EM PV) (τ : En) (d : PV) (S : Sto) : m2a f ma mb τ d S = if isDct d S = true then bnd (ma τ S) (m2b f mb τ d) else .bad := rfl
@[simp] theorem e_m2b (f : PV → PV → PV → Sto → Option (PV × Sto)) (mb : EM PV) (τ : En) (d k : PV) (S : Sto) : m2b f mb τ d k S = bnd (mb τ S) (m2c f d k) := rfl
@[simp] theorem e_m2c (f : PV → PV → PV → Sto → Option (PV × Sto)) (d k x : PV) (S : Sto) : m2c f d k x S = lift (f d k x S) := rfl
@[simp] theorem e_m1a (f : PV → PV → Sto → Option (PV × Sto)) (ma : EM PV) (τ : En) (d : PV) (S : Sto) : m1a f ma τ d S = if isDct d S = true then bnd (ma τ S) (m1b f d) else .bad := rfl
@[simp] theorem e_m1b (f : PV → PV → Sto → Option (PV × Sto)) (d k : PV) (S : Sto) : m1b f d k S = lift (f d k S) := rfl
@[simp] theorem e_meth1 (C m : Str) (F : FM) (g : List PV → List PV) (ms : EM (List PV)) (τ : En) (p : PV) (S : Sto) : meth1 C m F g ms τ p S = if isIns C m p S = true then bnd (ms τ S) (meth2 F g p) else .bad := rfl
@[simp] theorem e_meth2 (F : FM) (g : List PV → List PV) (p : PV) (ps : List PV) (S : Sto) : meth2 F g p ps S = F (p :: g ps) S := rfl
@[simp] theorem e_make1 (C : Str) (F : FM) (g : List PV → List PV) (ps : List PV) (S : Sto) : make1 C F g ps S = bnd (F (.loc S.length :: g ps) (S ++ [.ins C []])) (madeO S.length) := rfl
@[simp] theorem e_own1 (C : Str) (F : FM) (p : PV) (S : Sto) : own1 C F p S = if isIns C "" p S = true then bnd (F [p] S) ownLenO else .bad := rfl
@[simp] theorem e_ifK (s t : SM) (τ : En) (k : Bool) (S : Sto) : ifK s t τ k S = if k = true then s τ S else t τ S := rfl
@[simp] theorem e_setO1 (mo mi : EM PV) (τ : En) (v : PV) (S : Sto) : setO1 mo mi τ v S = bndS (mo τ S) τ (setO2 mi τ v) := rfl
@[simp] theorem e_setO2 (mi : EM PV) (τ : En) (v o : PV) (S : Sto) : setO2 mi τ v o S = bndS (mi τ S) τ (setO3 τ v o) := rfl
@[simp] theorem e_setf1 (C f : Str) (mo : EM PV) (τ : En) (v : PV) (S : Sto) : setf1 C f mo τ v S = bndS (mo τ S) τ (setfO C f τ v) := rfl
@[simp] theorem e_for1 (g : GM) (b : SM) (τ : En) (t : Wk) (S : Sto) : for1 g b τ t S = forL t g b t.items τ S := rfl
@[simp] theorem e_step1 (el : EM PV) (acc : List PV) (τ : En) (k : Bool) (S : Sto) : step1 el acc τ k S = if k = true then bnd (noEr (el τ S)) (step2 acc) else .ok acc S := rfl
@[simp] theorem e_step2 (acc : List PV) (y : PV) (S : Sto) : step2 acc y S = if acc.length < 16777216 then .ok (acc ++ [y]) S else .bad := rfl
@[simp] theorem e_stepI1 (m1 : EM Wk) (g1 : GM) (tt1 : EM Bool) (el : EM PV) (vs1 : List Nat) (acc : List PV) (τ : En) (k : Bool) (S : Sto) : stepI1 m1 g1 tt1 el vs1 acc τ k S = if k = true then bnd (noEr (m1 τ S)) (stepI2 g1 tt1 el vs1 acc τ) else .ok acc S := rfl
@[simp] theorem e_stepI2 (g1 : GM) (tt1 : EM Bool) (el : EM PV) (vs1 : List Nat) (acc : List PV) (τ : En) (t1 : Wk) (S : Sto) : stepI2 g1 tt1 el vs1 acc τ t1 S = accL t1 g1 (stepE tt1 el) acc t1.items (wipeE τ vs1) S := rfl
@[simp] theorem e_on1 (f : PV → Sto → Option (PV × Sto)) (p : PV) (S : Sto) : on1 f [p] S = f p S := rfl
@[simp] theorem e_on2 (f : PV → PV → Sto → Option (PV × Sto)) (p q : PV) (S : Sto) : on2 f [p, q] S = f p q S := rfl
variable (τ : En) (S : Sto)
@[simp] theorem e_vV (i : Nat) : vV i τ S = match τ[i]? with | some (some v) => .ok v S | _ => .bad := rfl
@[simp] theorem e_binM (f : Op2) (a b : EM PV) : binM f a b τ S = bnd (a τ S) (bin1 f b τ) := rfl
@[simp] theorem e_blM (m : EM PV) : blM m τ S = bnd (m τ S) blO := rfl
@[simp] theorem e_chainM (f f' : Op2) (a b c : EM PV) : chainM f f' a b c τ S = bnd (a τ S) (ch1 f f' b c τ) := rfl
@[simp] theorem e_isNM (m : EM PV) : isNM m τ S = bnd (m τ S) isNO := rfl
@[simp] theorem e_notNM (m : EM PV) : notNM m τ S = bnd (m τ S) notNO := rfl
@[simp] theorem e_truM (m : EM PV) : truM m τ S = bnd (m τ S) truO := rfl
@[simp] theorem e_andM (s t : EM Bool) : andM s t τ S = bnd (s τ S) (andO t τ) := rfl
@[simp] theorem e_orM (s t : EM Bool) : orM s t τ S = bnd (s τ S) (orO t τ) := rfl
@[simp] theorem e_notM (s : EM Bool) : notM s τ S = bnd (s τ S) notO := rfl
@[simp] theorem e_andV (s t : EM PV) : andV s t τ S = bnd (s τ S) (andVO t τ) := rfl
@[simp] theorem e_orV (s t : EM PV) : orV s t τ S = bnd (s τ S) (orVO t τ) := rfl
@[simp] theorem e_notV (s : EM PV) : notV s τ S = bnd (s τ S) notVO := rfl
@[simp] theorem e_orTM (s t : EM PV) : orTM s t τ S = bnd (s τ S) (orTO t τ) := rfl
@[simp] theorem e_ifM (c : EM Bool) (s t : EM PV) : ifM c s t τ S = bnd (c τ S) (ifO s t τ) := rfl
@[simp] theorem e_aN : aN τ S = .ok [] S := rfl
@[simp] theorem e_aC (m : EM PV) (ms : EM (List PV)) : aC m ms τ S = bnd (m τ S) (aC1 ms τ) := rfl
@[simp] theorem e_tupM (ms : EM (List PV)) : tupM ms τ S = bnd (ms τ S) tupO := rfl
@[simp] theorem e_lstM (ms : EM (List PV)) : lstM ms τ S = bnd (ms τ S) lstO := rfl
@[simp] theorem e_oN : oN τ S = .ok none S := rfl
@[simp] theorem e_oS (m : EM PV) : oS m τ S = bnd (m τ S) oSO := rfl
@[simp] theorem e_slM (m : EM PV) (lo hi : EM (Option Int)) : slM m lo hi τ S = bnd (m τ S) (sl1 lo hi τ) := rfl
@[simp] theorem e_unM (f : PV → Sto → Option (PV × Sto)) (m : EM PV) : unM f m τ S = bnd (m τ S) (unO f) := rfl
@[simp] theorem e_callM (f : OpN) (ms : EM (List PV)) : callM f ms τ S = bnd (ms τ S) (callO f) := rfl
@[simp] theorem e_isiM (T : String) (m : EM PV) : isiM T m τ S = bnd (m τ S) (isiO T) := rfl
@[simp] theorem e_mtM (T : String) (f : OpM) (m : EM PV) (ms : EM (List PV)) : mtM T f m ms τ S = bnd (m τ S) (mt1 T f ms τ) := rfl
@[simp] theorem e_callD (F : FM) (ms : EM (List PV)) : callD F ms τ S = bnd (ms τ S) F := rfl
@[simp] theorem e_seqM (m : EM PV) : seqM m τ S = bnd (m τ S) seqMO := rfl
@[simp] theorem e_rng1M (m : EM PV) : rng1M m τ S = bnd (m τ S) rng1O := rfl
@[simp] theorem e_rng2M (m m' : EM PV) : rng2M m m' τ S = bnd (m τ S) (rng2a m' τ) := rfl
@[simp] theorem e_enumM (m : EM PV) : enumM m τ S = bnd (m τ S) enumO := rfl
@[simp] theorem e_yesM : yesM τ S = .ok true S := rfl
@[simp] theorem e_compM (m : EM Wk) (g : GM) (tt : EM Bool) (el : EM PV) (vs : List Nat) : compM m g tt el vs τ S = bnd (m τ S) (comp1 g tt el vs τ) := rfl
@[simp] theorem e_comp2M (m : EM Wk) (g : GM) (tt : EM Bool) (m1 : EM Wk) (g1 : GM) (tt1 : EM Bool) (el : EM PV) (vs vs1 : List Nat) : comp2M m g tt m1 g1 tt1 el vs vs1 τ S = bnd (m τ S) (comp2a g tt m1 g1 tt1 el vs vs1 τ) := rfl
@[simp] theorem e_dictM : dictM τ S = .ok (.loc S.length) (S ++ [.dct []]) := rfl
@[simp] theorem e_m2M (f : PV → PV → PV → Sto → Option (PV × Sto)) (mo ma mb : EM PV) : m2M f mo ma mb τ S = bnd (mo τ S) (m2a f ma mb τ) := rfl
@[simp] theorem e_m1M (f : PV → PV → Sto → Option (PV × Sto)) (mo ma : EM PV) : m1M f mo ma τ S = bnd (mo τ S) (m1a f ma τ) := rfl
@[simp] theorem e_fldM (C f : Str) (m : EM PV) : fldM C f m τ S = bnd (m τ S) (fldO C f) := rfl
@[simp] theorem e_methM (C m : Str) (F : FM) (mo : EM PV) (ms : EM (List PV)) : methM C m F mo ms τ S = bnd (mo τ S) (meth1 C m F id ms τ) := rfl
@[simp] theorem e_methKM (C m : Str) (F : FM) (g : List PV → List PV) (mo : EM PV) (ms : EM (List PV)) : methKM C m F g mo ms τ S = bnd (mo τ S) (meth1 C m F g ms τ) := rfl
@[simp] theorem e_makeM (C : Str) (F : FM) (g : List PV → List PV) (ms : EM (List PV)) : makeM C F g ms τ S = bnd (ms τ S) (make1 C F g) := rfl
@[simp] theorem e_lenOwnM (C : Str) (F : FM) (m : EM PV) : lenOwnM C F m τ S = bnd (m τ S) (own1 C F) := rfl
@[simp] theorem e_lenSetM (m : EM PV) : lenSetM m τ S = bnd (m τ S) setLenO := rfl
@[simp] theorem e_nopS : nopS τ S = .nx τ S := rfl
@[simp] theorem e_seqS (s t : SM) : seqS s t τ S = seqO (s τ S) t := rfl
@[simp] theorem e_neverS : neverS τ S = .bad := rfl
@[simp] theorem e_exprS (m : EM PV) : exprS m τ S = bndS (m τ S) τ (nxO τ) := rfl
@[simp] theorem e_retS (m : EM PV) : retS m τ S = bndS (m τ S) τ rtO := rfl
@[simp] theorem e_retN : retN τ S = .rt .non S := rfl
@[simp] theorem e_ifS (c : EM Bool) (s t : SM) : ifS c s t τ S = bndS (c τ S) τ (ifK s t τ) := rfl
@[simp] theorem e_gN (i : Nat) (p : PV) : gN i p τ = some (τ.set i (some p)) := rfl
@[simp] theorem e_gsN : gsN [] τ = some τ := rfl
@[simp] theorem e_gsC (g : GM) (h : GMs) (p : PV) (r : List PV) : gsC g h (p :: r) τ = (g p τ).bind (h r) := rfl
@[simp] theorem e_gT (n : Nat) (g : GMs) (xs : List PV) : gT n g (.tup xs) τ = if xs.length = n then g xs τ else none := rfl
@[simp] theorem e_asgS (m : EM PV) (g : GM) : asgS m g τ S = bndS (m τ S) τ (asgO g τ) := rfl
@[simp] theorem e_setS (m mo mi : EM PV) : setS m mo mi τ S = bndS (m τ S) τ (setO1 mo mi τ) := rfl
@[simp] theorem e_augS (i : Nat) (f : Op2) (m : EM PV) : augS i f m τ S = match τ[i]? with | some (some x) => bndS (m τ S) τ (augO i τ f x) | _ => .bad := rfl
@[simp] theorem e_setfS (C f : Str) (m mo : EM PV) : setfS C f m mo τ S = bndS (m τ S) τ (setf1 C f mo τ) := rfl
@[simp] theorem e_forS (m : EM Wk) (g : GM) (b : SM) : forS m g b τ S = bndS (m τ S) τ (for1 g b τ) := rfl
end
/-! ### operations at known values -/
section
variable {α : Type} (S : Sto)
@[simp high] theorem wp_ite_bad {c : Prop} [Decidable c] {a : Out α} {P : α → Sto → Prop} {R : Str → PV → Sto → Prop} : wp (if c then a else .bad) P R ↔ (c ∧ wp a P R) := by
  split <;> simp_all
@[simp high] theorem wpS_ite_bad {c : Prop} [Decidable c] {a : OS} {N : En → Sto → Prop} {T : PV → Sto → Prop} {R : Str → PV → En → Sto → Prop} : wpS (if c then a else .bad) N T R ↔ (c ∧ wpS a N T R) := by
  split <;> simp_all
@[simp] theorem lift_ite {c : Prop} [Decidable c] {a b : Option (α × Sto)} : lift (if c then a else b) = if c then lift a else lift b := by split <;> rfl
@[simp] theorem bnd_ite {β : Type} {c : Prop} [Decidable c] {a b : Out α} {f : α → Sto → Out β} : bnd (if c then a else b) f = if c then bnd a f else bnd b f := by split <;> rfl
@[simp] theorem bndS_ite {c : Prop} [Decidable c] {a b : Out α} {τ : En} {f : α → Sto → OS} : bndS (if c then a else b) τ f = if c then bndS a τ f else bndS b τ f := by split <;> rfl
@[simp] theorem seqO_ite {c : Prop} [Decidable c] {a b : OS} {k : SM} : seqO (if c then a else b) k = if c then seqO a k else seqO b k := by split <;> rfl
@[simp] theorem addP_int (i j : Int) : addP (.int i) (.int j) S = some (.int (i + j), S) := rfl
@[simp] theorem addP_str (a b : Str) : addP (.str a) (.str b) S = if a.length + b.length ≤ 16777216 then some (.str (a ++ b), S) else none := rfl
@[simp] theorem addP_tup (a b : List PV) : addP (.tup a) (.tup b) S = if a.length + b.length ≤ 16777216 then some (.tup (a ++ b), S) else none := rfl
@[simp] theorem addP_loc (l k : Nat) : addP (.loc l) (.loc k) S = match S[l]?, S[k]? with
    | some (.lst a), some (.lst b) => if a.length + b.length ≤ 16777216 then some (.loc S.length, S ++ [.lst (a ++ b)]) else none
    | _, _ => none := rfl
@[simp] theorem subP_int (i j : Int) : subP (.int i) (.int j) S = some (.int (i - j), S) := rfl
@[simp] theorem mulP_int (i j : Int) : mulP (.int i) (.int j) S = if (-(2 ^ 64) < i ∧ i < 2 ^ 64) ∨ (-(2 ^ 64) < j ∧ j < 2 ^ 64) then some (.int (i * j), S) else none := rfl
@[simp] theorem mulP_str (x : Str) (n : Int) : mulP (.str x) (.int n) S = if 0 ≤ n ∧ n ≤ 1000000 ∧ x.length ≤ 16777216 ∧ x.length * n.toNat ≤ 16777216 then some (.str (Txt.mul x n), S) else none := rfl
@[simp] theorem fdivP_int (i j : Int) : fdivP (.int i) (.int j) S = if 0 < j ∧ j.natAbs < 1267650600228229401496703205376 then some (.int (i / j), S) else none := by
  show (if 0 < j ∧ j.natAbs < 1267650600228229401496703205376 then some (PV.int (i / j)) else none).map (fun v => (v, S)) = _
  split <;> rfl
@[simp] theorem modP_int (i j : Int) : modP (.int i) (.int j) S = if 0 < j then some (.int (i % j), S) else none := by
  show (if 0 < j then some (PV.int (i % j)) else none).map (fun v => (v, S)) = _
  split <;> rfl
@[simp] theorem powP_int (i j : Int) : powP (.int i) (.int j) S = if 0 ≤ j ∧ j ≤ 1000000 ∧ i.natAbs < 2 ^ 64 then some (.int (i ^ j.toNat), S) else none := by
  show (if 0 ≤ j ∧ j ≤ 1000000 ∧ i.natAbs < 2 ^ 64 then some (PV.int (i ^ j.toNat)) else none).map (fun v => (v, S)) = _
  split <;> rfl
@[simp] theorem ltP_int (i j : Int) : ltP (.int i) (.int j) S = some (.bl (decide (i < j)), S) := (rfl)
@[simp] theorem leP_int (i j : Int) : leP (.int i) (.int j) S = some (.bl (decide (i ≤ j)), S) := (rfl)
@[simp] theorem gtP_int (i j : Int) : gtP (.int i) (.int j) S = some (.bl (decide (j < i)), S) := (rfl)
@[simp] theorem geP_int (i j : Int) : geP (.int i) (.int j) S = some (.bl (decide (j ≤ i)), S) := (rfl)
@[simp] theorem eqP_ap (p q : PV) : eqP p q S = (eqB p q S).map fun b => (.bl b, S) := rfl
@[simp] theorem neP_ap (p q : PV) : neP p q S = (eqB p q S).map fun b => (.bl (!b), S) := rfl
@[simp] theorem inP_ap (p q : PV) : inP p q S = (inB p q S).map fun b => (.bl b, S) := rfl
@[simp] theorem notInP_ap (p q : PV) : notInP p q S = (inB p q S).map fun b => (.bl (!b), S) := rfl
@[simp] theorem eqB_int (i j : Int) : eqB (.int i) (.int j) S = some (decide (i = j)) := (rfl)
@[simp] theorem eqB_str (i j : Str) : eqB (.str i) (.str j) S = some (decide (i = j)) := (rfl)
@[simp] theorem eqB_bl (i j : Bool) : eqB (.bl i) (.bl j) S = some (decide (i = j)) := (rfl)
@[simp] theorem getP_tup (xs : List PV) (i : Int) : getP (.tup xs) (.int i) S = (atI xs i).map fun v => (v, S) := rfl
@[simp] theorem getP_fls (xs : List PV) (i : Int) : getP (.fls xs) (.int i) S = (atI xs i).map fun v => (v, S) := rfl
@[simp] theorem getP_str (x : Str) (i : Int) : getP (.str x) (.int i) S = if x.length ≤ 16777216 then (atI x.cps.toList i).map fun c => (.str ⟨#[c]⟩, S) else none := rfl
@[simp] theorem getP_loc (l : Nat) (i : Int) : getP (.loc l) (.int i) S = match S[l]? with | some (.lst xs) => (atI xs i).map fun v => (v, S) | _ => none := by
  unfold getP; cases h : S[l]? with
  | none => simp [h]
  | some o => cases o <;> simp [h]
@[simp] theorem atI_0 {β : Type} (x : β) (xs : List β) : atI (x :: xs) 0 = some x := by
  have e : ixN (x :: xs).length 0 = some 0 := by
    unfold ixN; rw [if_pos (by omega), if_pos (by simp only [List.length_cons]; omega)]; rfl
  unfold atI; rw [e]; rfl
@[simp] theorem atI_1 {β : Type} (x y : β) (xs : List β) : atI (x :: y :: xs) 1 = some y := by
  have e : ixN (x :: y :: xs).length 1 = some 1 := by
    unfold ixN; rw [if_pos (by omega), if_pos (by simp only [List.length_cons]; omega)]; rfl
  unfold atI; rw [e]; rfl
@[simp] theorem atI_2 {β : Type} (x y z : β) (xs : List β) : atI (x :: y :: z :: xs) 2 = some z := by
  have e : ixN (x :: y :: z :: xs).length 2 = some 2 := by
    unfold ixN; rw [if_pos (by omega), if_pos (by simp only [List.length_cons]; omega)]; rfl
  unfold atI; rw [e]; rfl
@[simp] theorem atI_3 {β : Type} (x y z w : β) (xs : List β) : atI (x :: y :: z :: w :: xs) 3 = some w := by
  have e : ixN (x :: y :: z :: w :: xs).length 3 = some 3 := by
    unfold ixN; rw [if_pos (by omega), if_pos (by simp only [List.length_cons]; omega)]; rfl
  unfold atI; rw [e]; rfl
theorem atI_nat {β : Type} {xs : List β} {i : Int} (h0 : 0 ≤ i) (h : i < xs.length) : ∃ x, atI xs i = some x ∧ xs[i.toNat]? = some x ∧ x ∈ xs := by
  have hlt : i.toNat < xs.length := by omega
  refine ⟨xs[i.toNat], ?_, List.getElem?_eq_getElem hlt, List.getElem_mem hlt⟩
  unfold atI ixN
  simp only [if_pos h0, if_pos h, Option.bind_some]
  exact List.getElem?_eq_getElem hlt
@[simp] theorem setP_loc (l : Nat) (k : Int) (v : PV) : setP (.loc l) (.int k) v S = match S[l]? with | some (.lst xs) => (ixN xs.length k).map fun j => S.set l (.lst (xs.set j v)) | _ => none := rfl
@[simp] theorem isTy_loc (T : String) (l : Nat) : isTy T (.loc l) S = match S[l]? with | some (.lst _) => T == "list" | some (.dct _) => T == "dict" | _ => false := rfl
@[simp] theorem isTy_str (T : String) (x : Str) : isTy T (.str x) S = (T == "str") := rfl
@[simp] theorem appendP_loc (l : Nat) (q : PV) : appendP (.loc l) [q] S = match S[l]? with | some (.lst xs) => if xs.length < 16777216 then some (.non, S.set l (.lst (xs ++ [q]))) else none | _ => none := rfl
@[simp] theorem extendP_loc (l m : Nat) : extendP (.loc l) [.loc m] S = match S[l]?, S[m]? with
    | some (.lst xs), some (.lst ys) => if xs.length + ys.length ≤ 16777216 then some (.non, S.set l (.lst (xs ++ ys))) else none
    | _, _ => none := rfl
@[simp] theorem insertP_loc (l : Nat) (i : Int) (q : PV) : insertP (.loc l) [.int i, q] S = match S[l]? with
    | some (.lst xs) => if xs.length < 16777216 ∧ 0 ≤ i ∧ i < 4611686018427387904 then some (.non, S.set l (.lst (xs.take i.toNat ++ [q] ++ xs.drop i.toNat))) else none
    | _ => none := rfl
@[simp] theorem popP_loc (l : Nat) (ps : List PV) : popP (.loc l) ps S = match S[l]? with
    | some (.lst xs) => match ps with
      | [] => (xs[xs.length - 1]?).map fun y => (y, S.set l (.lst xs.dropLast))
      | [.int i] => if -4611686018427387904 ≤ i ∧ i < 4611686018427387904 then (ixN xs.length i).bind fun j => (xs[j]?).map fun y => (y, S.set l (.lst (xs.eraseIdx j))) else none
      | _ => none
    | _ => none := rfl
@[simp] theorem reverseP_loc (l : Nat) : reverseP (.loc l) [] S = match S[l]? with | some (.lst xs) => some (.non, S.set l (.lst xs.reverse)) | _ => none := rfl
@[simp] theorem clearP_loc (l : Nat) : clearP (.loc l) [] S = match S[l]? with | some (.lst xs) => some (.non, S.set l (.lst [])) | _ => none := rfl
@[simp] theorem lenP_tup (xs : List PV) : lenP (.tup xs) S = some (.int xs.length, S) := rfl
@[simp] theorem lenP_fls (xs : List PV) : lenP (.fls xs) S = some (.int xs.length, S) := rfl
@[simp] theorem lenP_str (x : Str) : lenP (.str x) S = if x.length ≤ 16777216 then some (.int x.length, S) else none := rfl
@[simp] theorem lenP_loc (l : Nat) : lenP (.loc l) S = match S[l]? with | some (.lst xs) => some (.int xs.length, S) | some (.dct kvs) => some (.int kvs.length, S) | _ => none := rfl
@[simp] theorem itemsP_tup (xs : List PV) : itemsP (.tup xs) S = some xs := rfl
@[simp] theorem itemsP_fls (xs : List PV) : itemsP (.fls xs) S = some xs := rfl
@[simp] theorem itemsP_loc (l : Nat) : itemsP (.loc l) S = match S[l]? with | some (.lst xs) => some xs | _ => none := rfl
@[simp] theorem listP_ap (p : PV) : listP p S = (itemsP p S).map fun xs => (.loc S.length, S ++ [.lst xs]) := rfl
@[simp] theorem tupleP_ap (p : PV) : tupleP p S = (itemsP p S).map fun xs => (.tup xs, S) := rfl
@[simp] theorem allP_loc (l : Nat) : allP (.loc l) S = match S[l]? with | some (.lst xs) => (boolsP xs).map fun bs => (.bl (bs.all id), S) | _ => none := rfl
@[simp] theorem anyP_loc (l : Nat) : anyP (.loc l) S = match S[l]? with | some (.lst xs) => (boolsP xs).map fun bs => (.bl (bs.any id), S) | _ => none := rfl
@[simp] theorem intP_int (i : Int) : intP (.int i) S = some (.int i, S) := rfl
@[simp] theorem maxP_int (i j : Int) : maxP (.int i) (.int j) S = some (.int (if j > i then j else i), S) := rfl
@[simp] theorem minP_int (i j : Int) : minP (.int i) (.int j) S = some (.int (if j < i then j else i), S) := rfl
@[simp] theorem absP_int (i : Int) : absP (.int i) S = some (.int (if i < 0 then -i else i), S) := rfl
@[simp] theorem negP_int (i : Int) : negP (.int i) S = some (.int (-i), S) := rfl
@[simp] theorem revP_loc (l : Nat) : revP (.loc l) S = match S[l]? with | some (.lst xs) => some (.loc S.length, S ++ [.lst xs.reverse]) | _ => none := rfl
@[simp] theorem slP_tup (xs : List PV) (lo hi : Option Int) : slP (.tup xs) lo hi S = some (.tup (cutP xs lo hi), S) := rfl
@[simp] theorem slP_fls (xs : List PV) (lo hi : Option Int) : slP (.fls xs) lo hi S = some (.loc S.length, S ++ [.lst (cutP xs lo hi)]) := rfl
@[simp] theorem slP_str (x : Str) (lo hi : Option Int) : slP (.str x) lo hi S = if x.length ≤ 16777216 then some (.str (cutS x lo hi), S) else none := rfl
@[simp] theorem slP_loc (l : Nat) (lo hi : Option Int) : slP (.loc l) lo hi S = match S[l]? with | some (.lst xs) => some (.loc S.length, S ++ [.lst (cutP xs lo hi)]) | _ => none := rfl
@[simp] theorem itrP_tup (xs : List PV) : itrP (.tup xs) S = some ⟨xs, []⟩ := rfl
@[simp] theorem itrP_fls (xs : List PV) : itrP (.fls xs) S = some ⟨xs, []⟩ := rfl
@[simp] theorem itrP_str (x : Str) : itrP (.str x) S = some ⟨x.cps.toList.map fun c => .str ⟨#[c]⟩, []⟩ := rfl
@[simp] theorem itrP_loc (l : Nat) : itrP (.loc l) S = match S[l]? with | some (.lst xs) => some ⟨xs, [(l, xs)]⟩ | _ => none := rfl
@[simp] theorem wk_ok0 (xs : List PV) : (Wk.ok ⟨xs, []⟩ S) = True := by simp [Wk.ok]
@[simp] theorem wk_ok1 (xs ys : List PV) (l : Nat) : (Wk.ok ⟨xs, [(l, ys)]⟩ S) = (S[l]? = some (.lst ys)) := by simp [Wk.ok]
@[simp] theorem truP_bl (b : Bool) : truP (.bl b) S = some b := rfl
@[simp] theorem truP_int (i : Int) : truP (.int i) S = some (i != 0) := rfl
@[simp] theorem truP_non : truP .non S = some false := rfl
@[simp] theorem isNon_non : isNon .non = true := rfl
@[simp] theorem isNon_bl (b : Bool) : isNon (.bl b) = false := rfl
@[simp] theorem isNon_int (i : Int) : isNon (.int i) = false := rfl
@[simp] theorem isNon_str (x : Str) : isNon (.str x) = false := rfl
@[simp] theorem isNon_tup (xs : List PV) : isNon (.tup xs) = false := rfl
@[simp] theorem isNon_fls (xs : List PV) : isNon (.fls xs) = false := rfl
@[simp] theorem isNon_loc (l : Nat) : isNon (.loc l) = false := rfl
@[simp] theorem isIns_loc (C m : Str) (l : Nat) : isIns C m (.loc l) S = match S[l]? with | some (.ins C' fs) => decide (C' = C) && (fs.lookup m).isNone | _ => false := rfl
@[simp] theorem isDct_loc (l : Nat) : isDct (.loc l) S = match S[l]? with | some (.dct _) => true | _ => false := rfl
@[simp] theorem keyP_int (i : Int) : keyP (.int i) = some (.inl i) := rfl
@[simp] theorem keyP_str (x : Str) : keyP (.str x) = some (.inr x) := rfl
@[simp] theorem setdefP_loc (l : Nat) (k x : PV) : setdefP (.loc l) k x S = match S[l]?, keyP k with
    | some (.dct kvs), some kk => if kvs.length < 16777216 then (match valP kvs kk with | some v => some (v, S) | none => some (x, S.set l (.dct (putP kvs kk x)))) else none
    | _, _ => none := rfl
@[simp] theorem get1P_loc (l : Nat) (k : PV) : get1P (.loc l) k S = match S[l]?, keyP k with | some (.dct kvs), some kk => some ((valP kvs kk).getD .non, S) | _, _ => none := rfl
@[simp] theorem get2P_loc (l : Nat) (k x : PV) : get2P (.loc l) k x S = match S[l]?, keyP k with | some (.dct kvs), some kk => some ((valP kvs kk).getD x, S) | _, _ => none := rfl
@[simp] theorem dgetP_loc (l : Nat) (q : PV) : dgetP (.loc l) q S = match S[l]?, keyP q with | some (.dct kvs), some k => (valP kvs k).map fun v => (v, S) | _, _ => none := rfl
@[simp] theorem joinP_str (a : Str) (q : PV) : joinP (.str a) [q] S = ((itemsP q S).bind strsP).bind fun ys => if (ys.map (·.length)).sum + ys.length * a.length ≤ 16777216 then some (.str (Txt.join a ys), S) else none := rfl
@[simp] theorem ixN_1_0 : ixN 1 0 = some 0 := by rfl
@[simp] theorem ixN_2_0 : ixN 2 0 = some 0 := by rfl
@[simp] theorem ixN_2_1 : ixN 2 1 = some 1 := by rfl
@[simp] theorem ixN_3_0 : ixN 3 0 = some 0 := by rfl
@[simp] theorem ixN_3_1 : ixN 3 1 = some 1 := by rfl
@[simp] theorem ixN_3_2 : ixN 3 2 = some 2 := by rfl
@[simp] theorem ixN_4_0 : ixN 4 0 = some 0 := by rfl
@[simp] theorem ixN_4_1 : ixN 4 1 = some 1 := by rfl
@[simp] theorem ixN_4_2 : ixN 4 2 = some 2 := by rfl
@[simp] theorem ixN_4_3 : ixN 4 3 = some 3 := by rfl
@[simp] theorem ixN_5_0 : ixN 5 0 = some 0 := by rfl
@[simp] theorem ixN_5_1 : ixN 5 1 = some 1 := by rfl
@[simp] theorem ixN_5_2 : ixN 5 2 = some 2 := by rfl
@[simp] theorem ixN_5_3 : ixN 5 3 = some 3 := by rfl
@[simp] theorem ixN_5_4 : ixN 5 4 = some 4 := by rfl
/-! types -/
@[simp] theorem isi_bool_bl (b : Bool) : isiP "bool" (.bl b) S = some true := by rfl
@[simp] theorem isi_bool_int (b : Int) : isiP "bool" (.int b) S = some false := by rfl
@[simp] theorem isi_bool_str (b : Str) : isiP "bool" (.str b) S = some false := by rfl
@[simp] theorem isi_bool_tup (b : List PV) : isiP "bool" (.tup b) S = some false := by rfl
@[simp] theorem isi_int_bl (b : Bool) : isiP "int" (.bl b) S = some true := by rfl
@[simp] theorem isi_int_int (b : Int) : isiP "int" (.int b) S = some true := by rfl
@[simp] theorem isi_int_str (b : Str) : isiP "int" (.str b) S = some false := by rfl
@[simp] theorem isi_int_tup (b : List PV) : isiP "int" (.tup b) S = some false := by rfl
@[simp] theorem isi_str_bl (b : Bool) : isiP "str" (.bl b) S = some false := by rfl
@[simp] theorem isi_str_int (b : Int) : isiP "str" (.int b) S = some false := by rfl
@[simp] theorem isi_str_str (b : Str) : isiP "str" (.str b) S = some true := by rfl
@[simp] theorem isi_str_tup (b : List PV) : isiP "str" (.tup b) S = some false := by rfl
@[simp] theorem isi_list_bl (b : Bool) : isiP "list" (.bl b) S = some false := by rfl
@[simp] theorem isi_list_int (b : Int) : isiP "list" (.int b) S = some false := by rfl
@[simp] theorem isi_list_str (b : Str) : isiP "list" (.str b) S = some false := by rfl
@[simp] theorem isi_list_tup (b : List PV) : isiP "list" (.tup b) S = some false := by rfl
@[simp] theorem isi_tuple_bl (b : Bool) : isiP "tuple" (.bl b) S = some false := by rfl
@[simp] theorem isi_tuple_int (b : Int) : isiP "tuple" (.int b) S = some false := by rfl
@[simp] theorem isi_tuple_str (b : Str) : isiP "tuple" (.str b) S = some false := by rfl
@[simp] theorem isi_tuple_tup (b : List PV) : isiP "tuple" (.tup b) S = some true := by rfl
theorem isi_loc_lst {T : String} {l : Nat} {xs : List PV} (h : S[l]? = some (.lst xs)) : isiP T (.loc l) S = kitB "list" T := by
  simp [isiP, tyNm, h]
@[simp] theorem kit_lb : kitB "list" "bool" = some false := by rfl
@[simp] theorem kit_li : kitB "list" "int" = some false := by rfl
@[simp] theorem kit_ls : kitB "list" "str" = some false := by rfl
@[simp] theorem kit_ll : kitB "list" "list" = some true := by rfl
@[simp] theorem kit_lt : kitB "list" "tuple" = some false := by rfl
end
/-! ### loops -/
section
variable {N : En → Sto → Prop} {T : PV → Sto → Prop} {R : Str → PV → En → Sto → Prop}
/-- for over what stands still; Inv of what is done and what is left -/
theorem forL_inv {t : Wk} {g : GM} {b : SM} (Inv : List PV → List PV → En → Sto → Prop) {items : List PV} {τ : En} {S : Sto} (h0 : Inv [] items τ S)
    (hs : ∀ dn p rs τ S, items = dn ++ p :: rs → Inv dn (p :: rs) τ S → t.ok S ∧ ∃ τ1, g p τ = some τ1 ∧ wpS (b τ1 S) (Inv (dn ++ [p]) rs) T R)
    (he : ∀ τ S, Inv items [] τ S → t.ok S ∧ N τ S) : wpS (forL t g b items τ S) N T R := by
  have key : ∀ (rs dn : List PV) (τ : En) (S : Sto), items = dn ++ rs → Inv dn rs τ S → wpS (forL t g b rs τ S) N T R := by
    intro rs
    induction rs with
    | nil =>
      intro dn τ S e h
      have e' : items = dn := by simpa using e
      subst e'
      obtain ⟨h1, h2⟩ := he τ S h
      simp only [forL, if_pos h1]
      exact h2
    | cons p rs ih =>
      intro dn τ S e h
      obtain ⟨h1, τ1, h2, h3⟩ := hs dn p rs τ S e h
      simp only [forL, if_pos h1, h2]
      rw [wpS_seqO]
      exact wpS_mono h3 (fun τ' S' hh => ih (dn ++ [p]) τ' S' (by rw [e]; simp) hh) (fun _ _ k => k) fun _ _ _ _ k => k
  exact key items [] τ S rfl h0
theorem accL_inv {P : List PV → Sto → Prop} {R : Str → PV → Sto → Prop} {t : Wk} {g : GM} {st : List PV → En → Sto → Out (List PV)} (Inv : List PV → List PV → List PV → Sto → Prop) {items : List PV} {acc : List PV} {τ : En} {S : Sto} (h0 : Inv [] items acc S)
    (hs : ∀ dn p rs acc S, items = dn ++ p :: rs → Inv dn (p :: rs) acc S → t.ok S ∧ ∃ τ1, g p τ = some τ1 ∧ wp (st acc τ1 S) (Inv (dn ++ [p]) rs) R)
    (he : ∀ acc S, Inv items [] acc S → t.ok S ∧ P acc S) : wp (accL t g st acc items τ S) P R := by
  have key : ∀ (rs dn acc : List PV) (S : Sto), items = dn ++ rs → Inv dn rs acc S → wp (accL t g st acc rs τ S) P R := by
    intro rs
    induction rs with
    | nil =>
      intro dn acc S e h
      have e' : items = dn := by simpa using e
      subst e'
      obtain ⟨h1, h2⟩ := he acc S h
      rw [accL_nil, if_pos h1]
      exact h2
    | cons p rs ih =>
      intro dn acc S e h
      obtain ⟨h1, τ1, h2, h3⟩ := hs dn p rs acc S e h
      simp only [accL, if_pos h1, h2]
      rw [wp_bnd]
      exact wp_mono h3 (fun a S' hh => ih (dn ++ [p]) a S' (by rw [e]; simp) hh) fun _ _ _ k => k
  exact key items [] acc S rfl h0
theorem stepE_wp {tt : EM Bool} {el : EM PV} {acc : List PV} {τ : En} {S : Sto} {P : List PV → Sto → Prop} {R : Str → PV → Sto → Prop} :
    wp (stepE tt el acc τ S) P R = wp (tt τ S) (wK (step1 el acc τ) P R) noK := by
  show wp (bnd (noEr (tt τ S)) (step1 el acc τ)) P R = _
  rw [wp_bnd, e_noEr]
  rfl
theorem stepI_wp {tt : EM Bool} {m1 : EM Wk} {g1 : GM} {tt1 : EM Bool} {el : EM PV} {vs1 : List Nat} {acc : List PV} {τ : En} {S : Sto} {P : List PV → Sto → Prop} {R : Str → PV → Sto → Prop} :
    wp (stepI tt m1 g1 tt1 el vs1 acc τ S) P R = wp (tt τ S) (wK (stepI1 m1 g1 tt1 el vs1 acc τ) P R) noK := by
  show wp (bnd (noEr (tt τ S)) (stepI1 m1 g1 tt1 el vs1 acc τ)) P R = _
  rw [wp_bnd, e_noEr]
  rfl
theorem whileN_mono {c : EM Bool} {b : SM} : ∀ (n m : Nat) (τ : En) (S : Sto), n ≤ m → whileN c b n τ S ≠ .bad → whileN c b m τ S = whileN c b n τ S := by
  intro n
  induction n with
  | zero => intro m τ S _ h; exact absurd rfl h
  | succ n ih =>
    intro m τ S hm h
    obtain ⟨m, rfl⟩ : ∃ k, m = k + 1 := ⟨m - 1, by omega⟩
    simp only [whileN] at h ⊢
    cases hc : c τ S with
    | er c p S1 => rfl
    | bad => rfl
    | ok k S1 =>
      rw [hc] at h
      simp only [bndS_ok] at h ⊢
      by_cases hk : k = true
      · rw [if_pos hk] at h ⊢
        rw [if_pos hk]
        cases hb : b τ S1 with
        | rt v S2 => rfl
        | er c p τ' S2 => rfl
        | bad => rfl
        | nx τ' S2 =>
          rw [hb] at h
          simp only [seqO_nx] at h ⊢
          exact ih m τ' S2 (by omega) h
      · rw [if_neg hk, if_neg hk]
theorem whileS_of {c : EM Bool} {b : SM} {n : Nat} {τ : En} {S : Sto} (h : wpS (whileN c b n τ S) N T R) : wpS (whileS c b τ S) N T R := by
  have hne : whileN c b n τ S ≠ .bad := fun z => by rw [z] at h; exact h
  unfold whileS
  have hx : ∃ n, whileN c b n τ S ≠ .bad := ⟨n, hne⟩
  rw [dif_pos hx]
  have h2 := Classical.choose_spec hx
  generalize Classical.choose hx = m at h2 ⊢
  rcases Nat.le_total n m with q | q
  · rw [whileN_mono n m τ S q hne]; exact h
  · rw [← whileN_mono m n τ S q h2]; exact h
/-- while: Inv of a measure that falls -/
theorem while_inv {c : EM Bool} {b : SM} (Inv : Nat → En → Sto → Prop) {m : Nat} {τ : En} {S : Sto} (h0 : Inv m τ S)
    (hs : ∀ m τ S, Inv m τ S → wp (c τ S) (fun k S1 => (k = true → wpS (b τ S1) (fun τ' S' => ∃ j, j < m ∧ Inv j τ' S') T R) ∧ (k = false → N τ S1)) (fun c p S1 => R c p τ S1)) : wpS (whileS c b τ S) N T R := by
  suffices hh : ∀ m τ S, Inv m τ S → ∃ n, wpS (whileN c b n τ S) N T R by
    obtain ⟨n, h⟩ := hh m τ S h0
    exact whileS_of h
  intro m
  induction m using Nat.strongRecOn with
  | ind m ih =>
    intro τ S h
    have h1 := hs m τ S h
    cases hc : c τ S with
    | bad => rw [hc] at h1; exact h1.elim
    | er c' p S1 => rw [hc] at h1; exact ⟨1, by simp only [whileN, hc]; exact h1⟩
    | ok k S1 =>
      rw [hc] at h1
      obtain ⟨ht, hf⟩ := h1
      cases k with
      | false => exact ⟨1, by simp only [whileN, hc]; exact hf rfl⟩
      | true =>
        have h2 := ht rfl
        cases hb : b τ S1 with
        | bad => rw [hb] at h2; exact h2.elim
        | rt v S2 => rw [hb] at h2; exact ⟨1, by simp only [whileN, hc, bndS_ok, if_true, hb]; exact h2⟩
        | er c' p τ' S2 => rw [hb] at h2; exact ⟨1, by simp only [whileN, hc, bndS_ok, if_true, hb]; exact h2⟩
        | nx τ' S2 =>
          rw [hb] at h2
          obtain ⟨j, hj, hi⟩ := h2
          obtain ⟨n, hn⟩ := ih j hj τ' S2 hi
          exact ⟨n + 1, by simp only [whileN, hc, bndS_ok, if_true, hb, seqO_nx]; exact hn⟩
end
/-! ### frames -/
def Keep (M : List Nat) (S S' : Sto) : Prop := S.length ≤ S'.length ∧ ∀ l, l < S.length → l ∉ M → S'[l]? = S[l]?
section
variable {M : List Nat} {S S1 S2 : Sto} {l : Nat} {o : Ob}
theorem lt_of_get (h : S[l]? = some o) : l < S.length := (List.getElem?_eq_some_iff.mp h).1
theorem Keep.refl : Keep M S S := ⟨Nat.le_refl _, fun _ _ _ => rfl⟩
theorem Keep.trans (a : Keep M S S1) (b : Keep M S1 S2) : Keep M S S2 := ⟨Nat.le_trans a.1 b.1, fun l h n => (b.2 l (Nat.lt_of_lt_of_le h a.1) n).trans (a.2 l h n)⟩
theorem Keep.mono {M' : List Nat} (a : Keep M S S1) (h : ∀ x ∈ M, x < S.length → x ∈ M') : Keep M' S S1 := ⟨a.1, fun l hl n => a.2 l hl fun m => n (h l m hl)⟩
theorem Keep.get (k : Keep M S S1) (h : S[l]? = some o) (n : l ∉ M) : S1[l]? = some o := (k.2 l (lt_of_get h) n).trans h
theorem Keep.lt (k : Keep M S S1) (h : l < S.length) : l < S1.length := Nat.lt_of_lt_of_le h k.1
theorem Keep.app : Keep M S (S ++ [o]) := ⟨by simp, fun l h _ => List.getElem?_append_left h⟩
theorem Keep.set (h : l ∈ M) : Keep M S (S.set l o) := ⟨by simp, fun i _ n => List.getElem?_set_ne fun z => n (by rw [← z]; exact h)⟩
theorem app_new : (S ++ [o])[S.length]? = some o := by simp
theorem set_get {o' : Ob} (h : S[l]? = some o') : (S.set l o)[l]? = some o := List.getElem?_set_self (lt_of_get h)
end
/-! ### plain values -/
mutual
def Pl : Nat → PV → Prop
  | _, .non => True
  | _, .int _ => True
  | _, .str x => x.cps.all (· < 0x110000) = true
  | 0, _ => False
  | n + 1, .tup xs => PlL n xs
  | _, _ => False
def PlL : Nat → List PV → Prop
  | _, [] => True
  | n, x :: xs => Pl n x ∧ PlL n xs
end
theorem PlL_iff {n : Nat} : ∀ {xs : List PV}, PlL n xs ↔ ∀ x ∈ xs, Pl n x
  | [] => by simp [PlL]
  | x :: xs => by simp [PlL, PlL_iff (xs := xs)]
mutual
theorem Pl.up : ∀ (n : Nat) (p : PV), Pl n p → Pl (n + 1) p
  | _, .non, _ => by simp [Pl]
  | _, .int _, _ => by simp [Pl]
  | n, .str x, h => by cases n <;> simpa [Pl] using h
  | 0, .tup _, h => by simp [Pl] at h
  | n + 1, .tup xs, h => by
    have h' : PlL n xs := by simpa [Pl] using h
    have := PlL.up n xs h'
    simpa [Pl] using this
  | n, .bl _, h => by cases n <;> simp [Pl] at h
  | n, .fls _, h => by cases n <;> simp [Pl] at h
  | n, .loc _, h => by cases n <;> simp [Pl] at h
theorem PlL.up : ∀ (n : Nat) (xs : List PV), PlL n xs → PlL (n + 1) xs
  | _, [], _ => by simp [PlL]
  | n, x :: xs, h => by
    have h' : Pl n x ∧ PlL n xs := by simpa [PlL] using h
    exact ⟨Pl.up n x h'.1, PlL.up n xs h'.2⟩
end
theorem Pl.le {n m : Nat} {p : PV} (h : Pl n p) (k : n ≤ m) : Pl m p := by
  induction k with
  | refl => exact h
  | step _ ih => exact Pl.up _ _ ih
mutual
theorem Pl.toD : ∀ (n : Nat) (p : PV), Pl n p → ∃ d, toD p = some d ∧ d.canLay0 = true ∧ d.depth ≤ n
  | _, .non, _ => ⟨_, rfl, rfl, Nat.zero_le _⟩
  | _, .int _, _ => ⟨_, rfl, rfl, Nat.zero_le _⟩
  | n, .str x, h => ⟨_, rfl, by cases n <;> simpa [Pl, PyData.canLay0, PyData.strOk] using h, Nat.zero_le _⟩
  | 0, .tup _, h => by simp [Pl] at h
  | n + 1, .tup xs, h => by
    obtain ⟨ds, h1, h2, h3⟩ := PlL.toD n xs (by simpa [Pl] using h)
    exact ⟨.tuple ds, by simp [PL.toD, h1], h2, by show PyData.depthAll ds + 1 ≤ n + 1; omega⟩
  | n, .bl _, h => by cases n <;> simp [Pl] at h
  | n, .fls _, h => by cases n <;> simp [Pl] at h
  | n, .loc _, h => by cases n <;> simp [Pl] at h
theorem PlL.toD : ∀ (n : Nat) (xs : List PV), PlL n xs → ∃ ds, toDL xs = some ds ∧ PyData.canLayAll0 ds = true ∧ PyData.depthAll ds ≤ n
  | _, [], _ => ⟨[], rfl, rfl, Nat.zero_le _⟩
  | n, x :: xs, h => by
    have h' : Pl n x ∧ PlL n xs := by simpa [PlL] using h
    obtain ⟨d, h1, h2, h3⟩ := Pl.toD n x h'.1
    obtain ⟨ds, h4, h5, h6⟩ := PlL.toD n xs h'.2
    exact ⟨d :: ds, by simp [PL.toDL, h1, h4], by simp [PyData.canLayAll0, h2, h5], by show max d.depth (PyData.depthAll ds) ≤ n; omega⟩
end
mutual
theorem Pl.eqv : ∀ (n : Nat) (p q : PV) (d e : PyData), Pl n p → Pl n q → toD p = some d → toD q = some e → (PyData.eqv d e = true ↔ p = q)
  | 0, .tup _, _, _, _, h, _, _, _ => by simp [Pl] at h
  | n, .bl _, _, _, _, h, _, _, _ => by cases n <;> simp [Pl] at h
  | n, .fls _, _, _, _, h, _, _, _ => by cases n <;> simp [Pl] at h
  | n, .loc _, _, _, _, h, _, _, _ => by cases n <;> simp [Pl] at h
  | n, .non, q, d, e, _, hq, h1, h2 => by
    cases q <;> first | (exfalso; revert hq; cases n <;> simp [Pl]; done) | skip
    all_goals (simp only [PL.toD, Option.some.injEq] at h1; subst h1)
    · simp only [PL.toD, Option.some.injEq] at h2; subst h2; simp [PyData.eqv]
    · simp only [PL.toD, Option.some.injEq] at h2; subst h2; simp [PyData.eqv]
    · simp only [PL.toD, Option.some.injEq] at h2; subst h2; simp [PyData.eqv]
    · simp only [PL.toD, Option.map_eq_some_iff] at h2; obtain ⟨_, _, rfl⟩ := h2; simp [PyData.eqv]
  | n, .int i, q, d, e, _, hq, h1, h2 => by
    cases q <;> first | (exfalso; revert hq; cases n <;> simp [Pl]; done) | skip
    all_goals (simp only [PL.toD, Option.some.injEq] at h1; subst h1)
    · simp only [PL.toD, Option.some.injEq] at h2; subst h2; simp [PyData.eqv]
    · simp only [PL.toD, Option.some.injEq] at h2; subst h2; simp [PyData.eqv]
    · simp only [PL.toD, Option.some.injEq] at h2; subst h2; simp [PyData.eqv]
    · simp only [PL.toD, Option.map_eq_some_iff] at h2; obtain ⟨_, _, rfl⟩ := h2; simp [PyData.eqv]
  | n, .str i, q, d, e, _, hq, h1, h2 => by
    cases q <;> first | (exfalso; revert hq; cases n <;> simp [Pl]; done) | skip
    all_goals (simp only [PL.toD, Option.some.injEq] at h1; subst h1)
    · simp only [PL.toD, Option.some.injEq] at h2; subst h2; simp [PyData.eqv]
    · simp only [PL.toD, Option.some.injEq] at h2; subst h2; simp [PyData.eqv]
    · simp only [PL.toD, Option.some.injEq] at h2; subst h2; simp [PyData.eqv]
    · simp only [PL.toD, Option.map_eq_some_iff] at h2; obtain ⟨_, _, rfl⟩ := h2; simp [PyData.eqv]
  | n + 1, .tup xs, q, d, e, hp, hq, h1, h2 => by
    simp only [PL.toD, Option.map_eq_some_iff] at h1
    obtain ⟨ds, h1, rfl⟩ := h1
    cases q <;> first | (exfalso; revert hq; simp [Pl]; done) | skip
    · simp only [PL.toD, Option.some.injEq] at h2; subst h2; simp [PyData.eqv]
    · simp only [PL.toD, Option.some.injEq] at h2; subst h2; simp [PyData.eqv]
    · simp only [PL.toD, Option.some.injEq] at h2; subst h2; simp [PyData.eqv]
    · rename_i ys
      simp only [PL.toD, Option.map_eq_some_iff] at h2
      obtain ⟨es, h2, rfl⟩ := h2
      have := PlL.eqv n xs ys ds es (by simpa [Pl] using hp) (by simpa [Pl] using hq) h1 h2
      simpa [PyData.eqv] using this
theorem PlL.eqv : ∀ (n : Nat) (xs ys : List PV) (ds es : List PyData), PlL n xs → PlL n ys → toDL xs = some ds → toDL ys = some es → (PyData.eqvAll ds es = true ↔ xs = ys)
  | n, [], [], ds, es, _, _, h1, h2 => by
    simp only [PL.toDL, Option.some.injEq] at h1 h2; subst h1; subst h2; simp [PyData.eqvAll]
  | n, [], y :: ys, ds, es, _, _, h1, h2 => by
    simp only [PL.toDL, Option.some.injEq, Option.bind_eq_some_iff, Option.map_eq_some_iff] at h1 h2
    obtain ⟨_, _, _, _, rfl⟩ := h2; subst h1; simp [PyData.eqvAll]
  | n, x :: xs, [], ds, es, _, _, h1, h2 => by
    simp only [PL.toDL, Option.some.injEq, Option.bind_eq_some_iff, Option.map_eq_some_iff] at h1 h2
    obtain ⟨_, _, _, _, rfl⟩ := h1; subst h2; simp [PyData.eqvAll]
  | n, x :: xs, y :: ys, ds, es, hp, hq, h1, h2 => by
    simp only [PL.toDL, Option.bind_eq_some_iff, Option.map_eq_some_iff] at h1 h2
    obtain ⟨d, a1, dt, a2, rfl⟩ := h1
    obtain ⟨e, b1, et, b2, rfl⟩ := h2
    have hp' : Pl n x ∧ PlL n xs := by simpa [PlL] using hp
    have hq' : Pl n y ∧ PlL n ys := by simpa [PlL] using hq
    have i1 := Pl.eqv n x y d e hp'.1 hq'.1 a1 b1
    have i2 := PlL.eqv n xs ys dt et hp'.2 hq'.2 a2 b2
    simp [PyData.eqvAll, i1, i2]
end
theorem toDS_plain {S : Sto} {n : Nat} {p : PV} (h : Pl n p) : toDS S p = toD p := by
  cases p <;> first | rfl | (exfalso; revert h; cases n <;> simp [Pl]; done)
theorem shaped_of {d : PyData} (h1 : d.canLay0 = true) (h2 : d.depth ≤ 64) : SeqAt.shaped d = true := by
  unfold SeqAt.shaped; simp [h1, h2]
theorem eqB_plain {n : Nat} {p q : PV} {S : Sto} (hn : n ≤ 64) (hp : Pl n p) (hq : Pl n q) : ∃ b, eqB p q S = some b ∧ (b = true ↔ p = q) := by
  obtain ⟨d, h1, h2, h3⟩ := Pl.toD n p hp
  obtain ⟨e, h4, h5, h6⟩ := Pl.toD n q hq
  unfold eqB
  split
  · exact ⟨_, rfl, by simp⟩
  · exact ⟨_, rfl, by simp⟩
  · exact ⟨_, rfl, by simp⟩
  · rw [toDS_plain hp, toDS_plain hq, h1, h4]
    simp only [shaped_of h2 (by omega), shaped_of h5 (by omega), and_self, if_true]
    exact ⟨_, rfl, Pl.eqv n p q d e hp hq h1 h4⟩
theorem eqB_lists {n : Nat} {l k : Nat} {xs ys : List PV} {S : Sto} (hn : n < 64) (hl : S[l]? = some (.lst xs)) (hk : S[k]? = some (.lst ys)) (hp : PlL n xs) (hq : PlL n ys) : ∃ b, eqB (.loc l) (.loc k) S = some b ∧ (b = true ↔ xs = ys) := by
  obtain ⟨d, h1, h2, h3⟩ := PlL.toD n xs hp
  obtain ⟨e, h4, h5, h6⟩ := PlL.toD n ys hq
  unfold eqB
  have hd : SeqAt.shaped (.list d) = true := shaped_of h2 (by show PyData.depthAll d + 1 ≤ 64; omega)
  have he : SeqAt.shaped (.list e) = true := shaped_of h5 (by show PyData.depthAll e + 1 ≤ 64; omega)
  simp only [toDS, hl, hk, h1, h4, Option.map_some, hd, he, and_self, if_true]
  exact ⟨_, rfl, by simpa [PyData.eqv] using PlL.eqv n xs ys d e hp hq h1 h4⟩

/-! ### loops, with what follows kept shut -/
section
variable {N : En → Sto → Prop} {T : PV → Sto → Prop} {R : Str → PV → En → Sto → Prop}
theorem for_wp {t : Wk} {g : GM} {b : SM} (Inv : List PV → List PV → En → Sto → Prop) {items : List PV} {τ : En} {S : Sto} (h0 : Inv [] items τ S)
    (hs : ∀ dn p rs τ S (J : En → Sto → Prop), items = dn ++ p :: rs → Inv dn (p :: rs) τ S → (∀ τ' S', Inv (dn ++ [p]) rs τ' S' → J τ' S') → t.ok S ∧ ∃ τ1, g p τ = some τ1 ∧ wpS (b τ1 S) J T R)
    (he : ∀ τ S, Inv items [] τ S → t.ok S ∧ N τ S) : wpS (forL t g b items τ S) N T R :=
  forL_inv Inv h0 (fun dn p rs τ S e h => hs dn p rs τ S _ e h fun _ _ k => k) he
theorem acc_wp {P : List PV → Sto → Prop} {R : Str → PV → Sto → Prop} {t : Wk} {g : GM} {st : List PV → En → Sto → Out (List PV)} (Inv : List PV → List PV → List PV → Sto → Prop) {items : List PV} {acc : List PV} {τ : En} {S : Sto} (h0 : Inv [] items acc S)
    (hs : ∀ dn p rs acc S (J : List PV → Sto → Prop), items = dn ++ p :: rs → Inv dn (p :: rs) acc S → (∀ a S', Inv (dn ++ [p]) rs a S' → J a S') → t.ok S ∧ ∃ τ1, g p τ = some τ1 ∧ wp (st acc τ1 S) J R)
    (he : ∀ acc S, Inv items [] acc S → t.ok S ∧ P acc S) : wp (accL t g st acc items τ S) P R :=
  accL_inv Inv h0 (fun dn p rs acc S e h => hs dn p rs acc S _ e h fun _ _ k => k) he
theorem while_wp {c : EM Bool} {b : SM} (Inv : Nat → En → Sto → Prop) {m : Nat} {τ : En} {S : Sto} (h0 : Inv m τ S)
    (hs : ∀ m τ S (C : Bool → Sto → Prop) (J : En → Sto → Prop), Inv m τ S → (∀ S1, wpS (b τ S1) J T R → C true S1) → (∀ S1, N τ S1 → C false S1) → (∀ j τ' S', j < m → Inv j τ' S' → J τ' S') → wp (c τ S) C (rK R τ)) : wpS (whileS c b τ S) N T R :=
  while_inv Inv h0 fun m τ S h => hs m τ S _ (fun τ' S' => ∃ j, j < m ∧ Inv j τ' S') h (fun S1 k => ⟨fun _ => k, fun z => by cases z⟩) (fun S1 k => ⟨fun z => by (cases z), fun _ => k⟩) fun j τ' S' hj hi => ⟨j, hj, hi⟩
theorem wpS_mid {o : OS} (M : En → Sto → Prop) (h : ∀ J : En → Sto → Prop, (∀ τ S, M τ S → J τ S) → wpS o J T R) (k : ∀ τ S, M τ S → N τ S) : wpS o N T R := h N k
theorem wp_mid {α : Type} {o : Out α} {P : α → Sto → Prop} {R' : Str → PV → Sto → Prop} (M : α → Sto → Prop) (h : ∀ J : α → Sto → Prop, (∀ a S, M a S → J a S) → wp o J R') (k : ∀ a S, M a S → P a S) : wp o P R' := h P k
end
theorem split3 {α β : Type} {f : α → β} {xs : List α} {dn rs : List β} {p : β} (h : xs.map f = dn ++ p :: rs) : ∃ a y b, xs = a ++ y :: b ∧ dn = a.map f ∧ p = f y ∧ rs = b.map f := by
  obtain ⟨a, c, h1, h2, h3⟩ := List.map_eq_append_iff.mp h
  obtain ⟨y, b, h4, h5, h6⟩ := List.map_eq_cons_iff.mp h3
  exact ⟨a, y, b, by rw [h1, h4], h2.symm, h5.symm, h6.symm⟩
/-- for over the pictures of a list of data -/
theorem forM_wp {α : Type} {N : En → Sto → Prop} {T : PV → Sto → Prop} {R : Str → PV → En → Sto → Prop} {t : Wk} {g : GM} {b : SM} (f : α → PV) {xs : List α} (Inv : List α → En → Sto → Prop) {τ : En} {S : Sto} (h0 : Inv [] τ S)
    (hs : ∀ dn x rs τ S (J : En → Sto → Prop), xs = dn ++ x :: rs → Inv dn τ S → (∀ τ' S', Inv (dn ++ [x]) τ' S' → J τ' S') → t.ok S ∧ ∃ τ1, g (f x) τ = some τ1 ∧ wpS (b τ1 S) J T R)
    (he : ∀ τ S, Inv xs τ S → t.ok S ∧ N τ S) : wpS (forL t g b (xs.map f) τ S) N T R := by
  have key : ∀ (rs dn : List α) (τ : En) (S : Sto), xs = dn ++ rs → Inv dn τ S → wpS (forL t g b (rs.map f) τ S) N T R := by
    intro rs
    induction rs with
    | nil =>
      intro dn τ S e h
      have e' : xs = dn := by simpa using e
      subst e'
      obtain ⟨h1, h2⟩ := he τ S h
      simp only [List.map_nil, forL, if_pos h1]
      exact h2
    | cons p rs ih =>
      intro dn τ S e h
      obtain ⟨h1, τ1, h2, h3⟩ := hs dn p rs τ S _ e h (fun τ' S' hh => ih (dn ++ [p]) τ' S' (by rw [e]; simp) hh)
      simp only [List.map_cons, forL, if_pos h1, h2]
      rw [wpS_seqO]
      exact h3
  exact key xs [] τ S rfl h0
theorem accM_wp {α : Type} {P : List PV → Sto → Prop} {R : Str → PV → Sto → Prop} {t : Wk} {g : GM} {st : List PV → En → Sto → Out (List PV)} (f : α → PV) {xs : List α} (Inv : List α → List PV → Sto → Prop) {acc : List PV} {τ : En} {S : Sto} (h0 : Inv [] acc S)
    (hs : ∀ dn x rs acc S (J : List PV → Sto → Prop), xs = dn ++ x :: rs → Inv dn acc S → (∀ a S', Inv (dn ++ [x]) a S' → J a S') → t.ok S ∧ ∃ τ1, g (f x) τ = some τ1 ∧ wp (st acc τ1 S) J R)
    (he : ∀ acc S, Inv xs acc S → t.ok S ∧ P acc S) : wp (accL t g st acc (xs.map f) τ S) P R := by
  have key : ∀ (rs dn : List α) (acc : List PV) (S : Sto), xs = dn ++ rs → Inv dn acc S → wp (accL t g st acc (rs.map f) τ S) P R := by
    intro rs
    induction rs with
    | nil =>
      intro dn acc S e h
      have e' : xs = dn := by simpa using e
      subst e'
      obtain ⟨h1, h2⟩ := he acc S h
      rw [List.map_nil, accL_nil, if_pos h1]
      exact h2
    | cons p rs ih =>
      intro dn acc S e h
      obtain ⟨h1, τ1, h2, h3⟩ := hs dn p rs acc S (fun a S => wp (accL t g st a (rs.map f) τ S) P R) e h (fun a S' hh => ih (dn ++ [p]) a S' (by rw [e]; simp) hh)
      simp only [List.map_cons, accL, if_pos h1, h2]
      rw [wp_bnd]
      exact h3
  exact key xs [] acc S rfl h0
/-! ### new objects, opaque behind -/
section
variable {P : PV → Sto → Prop} {R : Str → PV → Sto → Prop} {S : Sto} {xs ys : List PV} {l k : Nat} {p : PV}
theorem alloc_wp {Q : PV → Sto → Prop} {o : Ob} (h : ∀ n S', S'[n]? = some o → Keep [] S S' → S.length ≤ n → Q (.loc n) S') : Q (.loc S.length) (S ++ [o]) :=
  h _ _ app_new .app (Nat.le_refl _)
theorem new_wp (h : ∀ n S', S'[n]? = some (.lst xs) → Keep [] S S' → S.length ≤ n → P (.loc n) S') : newK P xs S := alloc_wp h
theorem lst_wp (hl : xs.length ≤ 16777216) (h : ∀ n S', S'[n]? = some (.lst xs) → Keep [] S S' → S.length ≤ n → P (.loc n) S') : wp (lstO xs S) P R := by
  rw [e_lstO, if_pos hl]; exact alloc_wp h
theorem addL_wp (h1 : S[l]? = some (.lst xs)) (h2 : S[k]? = some (.lst ys)) (hb : xs.length + ys.length ≤ 16777216) (h : ∀ n S', S'[n]? = some (.lst (xs ++ ys)) → Keep [] S S' → S.length ≤ n → P (.loc n) S') : wp (lift (addP (.loc l) (.loc k) S)) P R := by
  rw [addP_loc, h1, h2]
  simp only [if_pos hb, lift_some, wp_ok]
  exact alloc_wp h
theorem list_wp (h1 : itemsP p S = some xs) (h : ∀ n S', S'[n]? = some (.lst xs) → Keep [] S S' → S.length ≤ n → P (.loc n) S') : wp (lift (listP p S)) P R := by
  rw [listP_ap, h1]
  exact alloc_wp h
theorem slL_wp {lo hi : Option Int} (h1 : S[l]? = some (.lst xs)) (h : ∀ n S', S'[n]? = some (.lst (cutP xs lo hi)) → Keep [] S S' → S.length ≤ n → P (.loc n) S') : wp (lift (slP (.loc l) lo hi S)) P R := by
  rw [slP_loc, h1]
  exact alloc_wp h
end
/-- a comprehension that changes nothing -/
theorem acc_map {α : Type} {P : List PV → Sto → Prop} {R : Str → PV → Sto → Prop} {t : Wk} {g : GM} {st : List PV → En → Sto → Out (List PV)} (i f : α → PV) {xs : List α} {acc : List PV} {τ : En} {S : Sto} (hok : t.ok S) (hl : acc.length + xs.length ≤ 16777216)
    (hs : ∀ x ∈ xs, ∀ (acc : List PV) (J : List PV → Sto → Prop), acc.length < 16777216 → J (acc ++ [f x]) S → ∃ τ1, g (i x) τ = some τ1 ∧ wp (st acc τ1 S) J R)
    (he : P (acc ++ xs.map f) S) : wp (accL t g st acc (xs.map i) τ S) P R := by
  induction xs generalizing acc with
  | nil => rw [List.map_nil, accL_nil, if_pos hok]; simpa using he
  | cons x xs ih =>
    simp only [List.length_cons] at hl
    obtain ⟨τ1, h1, h2⟩ := hs x (by simp) acc (fun a S => wp (accL t g st a (xs.map i) τ S) P R) (by omega) (ih (acc := acc ++ [f x]) (by simp; omega) (fun y hy => hs y (by simp [hy])) (by simpa using he))
    simp only [List.map_cons, accL, if_pos hok, h1]
    rw [wp_bnd]
    exact h2
theorem strs_inj : ∀ {a b : List Str}, a.map PV.str = b.map PV.str → a = b
  | [], [], _ => rfl
  | [], _ :: _, h => by simp at h
  | _ :: _, [], h => by simp at h
  | x :: a, y :: b, h => by
    simp only [List.map_cons, List.cons.injEq, PV.str.injEq] at h
    rw [h.1, strs_inj h.2]
theorem strsP_comp {α : Type} (f : α → Str) (cs : List α) : strsP (cs.map fun c => PV.str (f c)) = some (cs.map f) := by
  induction cs with
  | nil => rfl
  | cons c cs ih => simp [strsP, ih]
theorem strsP_comp' {α : Type} (f : α → Str) (cs : List α) : strsP (cs.map (PV.str ∘ f)) = some (cs.map f) := strsP_comp f cs
end PL
/-! PLU: reasoning about raise and try. -/
namespace PL
open PySem PySem.Spec PyProof.Rows L2
def raO (C : Str) (τ : En) : PV → Sto → OS := fun v S => .er C v τ S
@[simp] theorem e_raO (C : Str) (τ : En) (v : PV) (S : Sto) : raO C τ v S = .er C v τ S := rfl
@[simp] theorem e_raiseS (C : Str) (m : EM PV) (τ : En) (S : Sto) : raiseS C m τ S = bndS (m τ S) τ (raO C τ) := rfl
def tryK (cs : List (Str × Bool)) (h : Str → PV → SM) (N : En → Sto → Prop) (T : PV → Sto → Prop) (R : Str → PV → En → Sto → Prop) : Str → PV → En → Sto → Prop := fun c p τ S =>
  match cs.lookup c with | some true => wpS (noErS (h c p τ S)) N T R | some false => R c p τ S | none => False
@[simp] theorem e_tryK (cs : List (Str × Bool)) (h : Str → PV → SM) (N : En → Sto → Prop) (T : PV → Sto → Prop) (R : Str → PV → En → Sto → Prop) (c : Str) (p : PV) (τ : En) (S : Sto) :
    tryK cs h N T R c p τ S = match cs.lookup c with | some true => wpS (noErS (h c p τ S)) N T R | some false => R c p τ S | none => False := rfl
@[simp] theorem e_tryS (cs : List (Str × Bool)) (b : SM) (h : Str → PV → SM) (τ : En) (S : Sto) (N : En → Sto → Prop) (T : PV → Sto → Prop) (R : Str → PV → En → Sto → Prop) : wpS (tryS cs b h τ S) N T R = wpS (b τ S) N T (tryK cs h N T R) := by
  unfold tryS
  cases b τ S with
  | nx τ S => rfl
  | rt v S => rfl
  | bad => rfl
  | er c p τ1 S1 =>
    simp only [wpS_er, e_tryK]
    cases cs.lookup c with
    | none => rfl
    | some b => cases b <;> rfl
def noKS : Str → PV → En → Sto → Prop := fun _ _ _ _ => False
@[simp] theorem e_noErS (o : OS) (N : En → Sto → Prop) (T : PV → Sto → Prop) (R : Str → PV → En → Sto → Prop) : wpS (noErS o) N T R = wpS o N T noKS := by cases o <;> rfl
@[simp] theorem e_asgL (i j : Nat) (vs : List PV) (τ : En) (S : Sto) : asgL i j vs τ S = if vs.length ≤ 16777216 ∧ i < τ.length then .nx ((τ.set j (some (.loc S.length))).set i none) (S ++ [.lst vs]) else .bad := rfl
end PL
/-! PLP: letters, names. -/
namespace PL
open PySem PySem.Spec PyProof.Rows L2
theorem map_inj_of {α β : Type} {f : α → β} (hf : ∀ a b, f a = f b → a = b) : ∀ {xs ys : List α}, xs.map f = ys.map f → xs = ys
  | [], [], _ => rfl
  | [], _ :: _, h => by simp at h
  | _ :: _, [], h => by simp at h
  | x :: xs, y :: ys, h => by
    simp only [List.map_cons, List.cons.injEq] at h
    rw [hf _ _ h.1, map_inj_of hf h.2]
@[simp] theorem ofString_inj {a b : String} : Str.ofString a = Str.ofString b ↔ a = b := by
  constructor
  · intro h
    rw [Str.ofString_eq_toList, Str.ofString_eq_toList] at h
    have h1 : a.toList.map Char.toNat = b.toList.map Char.toNat := by
      have := congrArg (fun s : Str => s.cps.toList) h
      simpa using this
    have h2 : a.toList = b.toList := map_inj_of (fun x y e => Char.toNat_inj.mp e) h1
    exact String.toList_inj.mp h2
  · intro h; rw [h]
def ch (x : Str) : List Nat := x.cps.toList
theorem ch_len (x : Str) : (ch x).length = x.length := by simp [ch, Str.length]
theorem ch_app (a b : Str) : ch (a ++ b) = ch a ++ ch b := by
  show (a.cps ++ b.cps).toList = _
  simp [ch]
theorem ch_ext {a b : Str} (h : ch a = ch b) : a = b := by
  cases a; cases b; simp [ch] at h; simp [h]
@[simp] theorem ch_mk (l : List Nat) : ch ⟨l.toArray⟩ = l := by simp [ch]
theorem ch_cut (x : Str) (lo hi : Option Int) : ch (cutS x lo hi) = ((ch x).drop (HT.sIx x.length 0 lo)).take (HT.sIx x.length x.length hi - HT.sIx x.length 0 lo) := by
  simp [cutS, ch]
theorem ch_mul1 (c : Nat) (n : Int) : ch (Txt.mul ⟨#[c]⟩ n) = List.replicate n.toNat c := mul_one_list c n
theorem joinL_nil : ∀ ps : List (List Nat), TL.joinL [] ps = ps.flatten
  | [] => rfl
  | [p] => by simp [TL.joinL]
  | p :: q :: r => by simp [TL.joinL, joinL_nil (q :: r)]
theorem ch_join0 (ys : List Str) : ch (Txt.join ⟨#[]⟩ ys) = (ys.map ch).flatten := by
  have e := TL.tl_join ⟨#[]⟩ ys
  rw [← TL.join_eq] at e
  show TL.tl _ = _
  rw [e]
  exact joinL_nil _
def Lt (c : Nat) : Prop := 97 ≤ c ∧ c ≤ 122
instance (c : Nat) : Decidable (Lt c) := inferInstanceAs (Decidable (_ ∧ _))
def Lw (x : Str) : Prop := ∀ c ∈ ch x, Lt c
structure Nm (x : Str) : Prop where
  l : Lw x
  p : 1 ≤ x.length
  q : x.length ≤ 8
theorem Lw.plain {x : Str} (h : Lw x) (n : Nat) : Pl n (.str x) := by
  cases n <;>
  · simp only [Pl, ← Array.all_toList, List.all_eq_true, decide_eq_true_eq]
    intro c hc
    have := h c hc
    unfold Lt at this
    omega
theorem Lw.app {x y : Str} (h : Lw x) (k : Lw y) : Lw (x ++ y) := fun c hc => by
  rw [ch_app] at hc
  rcases List.mem_append.mp hc with q | q
  · exact h c q
  · exact k c q
theorem Lw.cut {x : Str} (h : Lw x) (lo hi : Option Int) : Lw (cutS x lo hi) := fun c hc => by
  rw [ch_cut] at hc
  exact h c (List.mem_of_mem_drop (List.mem_of_mem_take hc))
theorem Lw.one {c : Nat} (h : Lt c) : Lw ⟨#[c]⟩ := fun d hd => by
  have : d = c := by simpa [ch] using hd
  subst this; exact h
theorem Lw.nil : Lw ⟨#[]⟩ := fun d hd => by simp [ch] at hd
theorem abc_ch : ch (Str.ofString "abcdefghijklmnopqrstuvwxyz") = List.range' 97 26 := by decide +kernel
theorem abc_len : (Str.ofString "abcdefghijklmnopqrstuvwxyz").length = 26 := by rw [← ch_len, abc_ch]; rfl
theorem abc_mem {c : Nat} : c ∈ (Str.ofString "abcdefghijklmnopqrstuvwxyz").cps.toList ↔ Lt c := by
  show c ∈ ch _ ↔ _
  rw [abc_ch, List.mem_range']
  unfold Lt
  constructor
  · rintro ⟨i, h1, h2⟩; omega
  · intro h; exact ⟨c - 97, by omega, by omega⟩
theorem abc_at {i : Int} (h0 : 0 ≤ i) (h : i < 26) : ∃ c, atI (Str.ofString "abcdefghijklmnopqrstuvwxyz").cps.toList i = some c ∧ Lt c := by
  obtain ⟨c, h1, _, h2⟩ := atI_nat (xs := (Str.ofString "abcdefghijklmnopqrstuvwxyz").cps.toList) h0 (by
    have := abc_len
    rw [← ch_len] at this
    show i < ((ch _).length : Int)
    omega)
  exact ⟨c, h1, abc_mem.mp h2⟩
theorem empty_str : Str.ofString "" = ⟨#[]⟩ := by decide +kernel
theorem strsP_map : ∀ ys : List Str, strsP (ys.map PV.str) = some ys
  | [] => rfl
  | y :: ys => by simp [strsP, strsP_map ys]
theorem inItems_strs (x : Str) (ys : List Str) : inItems (.str x) (ys.map PV.str) = some (decide (x ∈ ys)) := by
  unfold inItems
  rw [if_pos (by simp [flatP])]
  simp only [inV, List.map_map]
  congr 1
  induction ys with
  | nil => simp
  | cons y ys ih =>
    simp only [List.map_cons, List.any_cons, Function.comp, flatW, eqV] at ih ⊢
    rw [ih]
    by_cases h : x = y
    · subst h; simp
    · have h' : (y == x) = false := by simpa using fun z => h z.symm
      simp [h, h']
theorem inB_strs {S : Sto} {l : Nat} {x : Str} {ys : List Str} (h : S[l]? = some (.lst (ys.map PV.str))) : inB (.str x) (.loc l) S = some (decide (x ∈ ys)) := by
  unfold inB
  simp only [h]
  rw [inItems_strs]
theorem inB_char {S : Sto} {c : Nat} : inB (.str ⟨#[c]⟩) (.str (Str.ofString "abcdefghijklmnopqrstuvwxyz")) S = some (decide (Lt c)) := by
  show some (decide (c ∈ (Str.ofString "abcdefghijklmnopqrstuvwxyz").cps.toList)) = _
  simp only [abc_mem]
/-- what has no room for all of a list leaves one out -/
theorem some_out {α : Type} [DecidableEq α] : ∀ {xs us : List α}, xs.Nodup → us.length < xs.length → ∃ x ∈ xs, x ∉ us
  | [], _, _, h => by simp at h
  | x :: xs, us, nd, h => by
    by_cases hx : x ∈ us
    · have nd' := List.nodup_cons.mp nd
      obtain ⟨y, hy, hn⟩ := some_out (us := us.erase x) nd'.2 (by
        rw [List.length_erase_of_mem hx]
        have := List.length_pos_of_mem hx
        simp at h; omega)
      refine ⟨y, List.mem_cons_of_mem _ hy, fun q => hn ((List.mem_erase_of_ne fun z => nd'.1 (by rw [← z]; exact hy)).mpr q)⟩
    · exact ⟨x, by simp, hx⟩
theorem cut_le (x : Str) (lo hi : Option Int) : (cutS x lo hi).length ≤ x.length := by
  rw [← ch_len, ch_cut, ← ch_len x]
  simp [List.length_take, List.length_drop]
  omega
theorem cut_8 (x : Str) : (cutS x none (some 8)).length ≤ 8 := by
  rw [← ch_len, ch_cut]
  have : HT.sIx x.length x.length (some ((8 : Nat) : Int)) = min 8 x.length := HT.sIx_nat _ _ 8
  have h : HT.sIx x.length x.length (some 8) ≤ 8 := by
    show HT.sIx x.length x.length (some ((8 : Nat) : Int)) ≤ 8
    rw [this]; omega
  simp only [List.length_take, List.length_drop]
  omega
theorem len_app (a b : Str) : (a ++ b).length = a.length + b.length := by
  rw [← ch_len, ch_app, List.length_append, ch_len, ch_len]
end PL
/-! PLR: rows as data. -/
namespace PL
open PySem PySem.Spec PyProof.Rows L2
inductive Vl where
  | num (i : Int) | copy (x : Str) | add (x y : Str) | read | clean (x : Str) | call (f : Str) (xs : List Str)
inductive Rw where
  | set (x : Str) (v : Vl) | iff (x : Str) (a b : List Rw) | send (x : Str) | give (x : Str)
abbrev Hd := Str × List Str
def stL (xs : List Str) : List PV := xs.map PV.str
def Vl.pv : Vl → PV
  | .num i => .tup [.str "num", .int i]
  | .copy x => .tup [.str "copy", .str x]
  | .add x y => .tup [.str "add", .str x, .str y]
  | .read => .tup [.str "read"]
  | .clean x => .tup [.str "clean", .str x]
  | .call f xs => .tup [.str "call", .str f, .tup (stL xs)]
mutual
def Rw.pv : Rw → PV
  | .set x v => .tup [.str "set", .str x, v.pv]
  | .iff x a b => .tup [.str "if", .str x, .tup (Rw.pvs a), .tup (Rw.pvs b)]
  | .send x => .tup [.str "send", .str x]
  | .give x => .tup [.str "give", .str x]
def Rw.pvs : List Rw → List PV
  | [] => []
  | r :: rs => r.pv :: Rw.pvs rs
end
theorem pvs_map : ∀ rs : List Rw, Rw.pvs rs = rs.map Rw.pv
  | [] => rfl
  | r :: rs => by simp [Rw.pvs, pvs_map rs]
def Vl.ok (ns : List Str) (hs : List Hd) : Vl → Prop
  | .num _ => True
  | .copy x => x ∈ ns
  | .add x y => x ∈ ns ∧ y ∈ ns
  | .read => True
  | .clean x => x ∈ ns
  | .call f xs => (∀ x ∈ xs, x ∈ ns) ∧ ∃ ps, (f, ps) ∈ hs ∧ xs.length = ps.length
mutual
def Rw.ok (ns : List Str) (hs : List Hd) : Rw → Prop
  | .set x v => x ∈ ns ∧ v.ok ns hs
  | .iff x a b => x ∈ ns ∧ Rw.oks ns hs a ∧ Rw.oks ns hs b
  | .send x => x ∈ ns
  | .give x => x ∈ ns
def Rw.oks (ns : List Str) (hs : List Hd) : List Rw → Prop
  | [] => True
  | r :: rs => r.ok ns hs ∧ Rw.oks ns hs rs
end
mutual
/-- a row and all within -/
def Rw.each : Rw → List Rw
  | .iff x a b => .iff x a b :: (Rw.eachs a ++ Rw.eachs b)
  | .set x v => [.set x v]
  | .send x => [.send x]
  | .give x => [.give x]
def Rw.eachs : List Rw → List Rw
  | [] => []
  | r :: rs => r.each ++ Rw.eachs rs
end
mutual
def Rw.dep : Rw → Nat
  | .iff _ a b => 1 + max (Rw.deps a) (Rw.deps b)
  | _ => 1
def Rw.deps : List Rw → Nat
  | [] => 0
  | r :: rs => max r.dep (Rw.deps rs)
end
theorem oks_app {ns : List Str} {hs : List Hd} : ∀ {a b : List Rw}, Rw.oks ns hs (a ++ b) ↔ Rw.oks ns hs a ∧ Rw.oks ns hs b
  | [], b => by simp [Rw.oks]
  | r :: a, b => by simp [Rw.oks, oks_app (a := a), and_assoc]
theorem eachs_app : ∀ {a b : List Rw}, Rw.eachs (a ++ b) = Rw.eachs a ++ Rw.eachs b
  | [], b => by simp [Rw.eachs]
  | r :: a, b => by simp [Rw.eachs, eachs_app (a := a)]
theorem deps_app : ∀ {a b : List Rw}, Rw.deps (a ++ b) = max (Rw.deps a) (Rw.deps b)
  | [], b => by simp [Rw.deps]
  | r :: a, b => by simp [Rw.deps, deps_app (a := a)]; try omega
def Hd.pv (h : Hd) : PV := .tup [.str h.1, .tup (stL h.2)]
theorem hd_inj {a b : Hd} (h : a.pv = b.pv) : a = b := by
  obtain ⟨a1, a2⟩ := a
  obtain ⟨b1, b2⟩ := b
  simp only [Hd.pv, PV.tup.injEq, List.cons.injEq, PV.str.injEq, and_true] at h
  rw [h.1, strs_inj h.2]
theorem hds_inj : ∀ {a b : List Hd}, a.map Hd.pv = b.map Hd.pv → a = b
  | [], [], _ => rfl
  | [], _ :: _, h => by simp at h
  | _ :: _, [], h => by simp at h
  | x :: a, y :: b, h => by
    simp only [List.map_cons, List.cons.injEq] at h
    rw [hd_inj h.1, hds_inj h.2]
mutual
theorem Rw.each_pos : ∀ r : Rw, 1 ≤ r.each.length
  | .iff _ _ _ => by simp [Rw.each]
  | .set _ _ => by simp [Rw.each]
  | .send _ => by simp [Rw.each]
  | .give _ => by simp [Rw.each]
end
theorem len_eachs : ∀ rs : List Rw, rs.length ≤ (Rw.eachs rs).length
  | [] => by simp
  | r :: rs => by
    have := Rw.each_pos r
    have := len_eachs rs
    simp [Rw.eachs]; omega
def Vl.asked : Vl → List Str
  | .num _ => []
  | .copy x => [x]
  | .add x y => [x, y]
  | .read => []
  | .clean x => [x]
  | .call _ xs => xs
def Rw.ins : Rw → List Str
  | .set x v => v.asked ++ [x]
  | .iff x _ _ => [x, x]
  | .send x => [x, x]
  | .give x => [x, x]
def Rw.called : Rw → PV
  | .set _ (.call f xs) => .tup [.str f, .tup (stL xs)]
  | _ => .non
theorem ins_ok {ns : List Str} {hs : List Hd} {r : Rw} (h : r.ok ns hs) : ∀ x ∈ r.ins, x ∈ ns := by
  cases r with
  | set x v =>
    obtain ⟨h1, h2⟩ := h
    intro y hy
    simp only [Rw.ins, List.mem_append, List.mem_singleton] at hy
    rcases hy with hy | rfl
    · cases v with
      | num _ => simp [Vl.asked] at hy
      | read => simp [Vl.asked] at hy
      | copy z => simp [Vl.asked] at hy; subst hy; exact h2
      | clean z => simp [Vl.asked] at hy; subst hy; exact h2
      | add z w => simp [Vl.asked] at hy; rcases hy with rfl | rfl; exact h2.1; exact h2.2
      | call f xs => exact h2.1 y hy
    · exact h1
  | iff x a b => intro y hy; simp [Rw.ins] at hy; subst hy; exact h.1
  | send x => intro y hy; simp [Rw.ins] at hy; subst hy; exact h
  | give x => intro y hy; simp [Rw.ins] at hy; subst hy; exact h
mutual
theorem each_ok {ns : List Str} {hs : List Hd} : ∀ (r : Rw), r.ok ns hs → ∀ q ∈ r.each, q.ok ns hs
  | .set x v, h, q, hq => by simp [Rw.each] at hq; subst hq; exact h
  | .send x, h, q, hq => by simp [Rw.each] at hq; subst hq; exact h
  | .give x, h, q, hq => by simp [Rw.each] at hq; subst hq; exact h
  | .iff x a b, h, q, hq => by
    simp only [Rw.each, List.mem_cons, List.mem_append] at hq
    rcases hq with rfl | hq | hq
    · exact h
    · exact eachs_ok a h.2.1 q hq
    · exact eachs_ok b h.2.2 q hq
theorem eachs_ok {ns : List Str} {hs : List Hd} : ∀ (rs : List Rw), Rw.oks ns hs rs → ∀ q ∈ Rw.eachs rs, q.ok ns hs
  | [], _, q, hq => by simp [Rw.eachs] at hq
  | r :: rs, h, q, hq => by
    simp only [Rw.eachs, List.mem_append] at hq
    rcases hq with hq | hq
    · exact each_ok r h.1 q hq
    · exact eachs_ok rs h.2 q hq
end
abbrev Cl := Str × List Str
def Cl.pv (c : Cl) : PV := .tup [.str c.1, .tup (stL c.2)]
def Rw.callL : Rw → List Cl
  | .set _ (.call f xs) => [(f, xs)]
  | _ => []
theorem callL_some {r : Rw} : (r.called = .non ∧ r.callL = []) ∨ ∃ c, r.called = Cl.pv c ∧ r.callL = [c] := by
  cases r with
  | set x v => cases v <;> first | exact .inl ⟨rfl, rfl⟩ | exact .inr ⟨_, rfl, rfl⟩
  | _ => exact .inl ⟨rfl, rfl⟩
theorem callL_ok {ns : List Str} {hs : List Hd} {r : Rw} (h : r.ok ns hs) : ∀ c ∈ r.callL, ∃ ps, (c.1, ps) ∈ hs ∧ c.2.length = ps.length := by
  intro c hc
  cases r with
  | set x v =>
    cases v with
    | call f xs => simp [Rw.callL] at hc; subst hc; exact h.2.2
    | _ => simp [Rw.callL] at hc
  | _ => simp [Rw.callL] at hc
theorem ins_len {ns : List Str} {hs : List Hd} {r : Rw} (h : r.ok ns hs) (hp : ∀ h ∈ hs, h.2.length ≤ 4) : r.ins.length ≤ 5 := by
  cases r with
  | set x v =>
    cases v with
    | call f xs =>
      obtain ⟨_, ps, h1, h2⟩ := h.2
      have : ps.length ≤ 4 := hp _ h1
      simp [Rw.ins, Vl.asked]; omega
    | _ => simp [Rw.ins, Vl.asked]
  | _ => simp [Rw.ins]
def Hd.kv (h : Hd) : Key × PV := (.inr h.1, .tup (stL h.2))
theorem valP_hds : ∀ {hs : List Hd} {f : Str} {ps : List Str}, (hs.map (·.1)).Nodup → (f, ps) ∈ hs → valP (hs.map Hd.kv) (.inr f) = some (.tup (stL ps))
  | [], _, _, _, h => by simp at h
  | x :: hs, f, ps, nd, h => by
    simp only [List.map_cons, List.nodup_cons] at nd
    rcases List.mem_cons.mp h with h | h
    · subst h
      simp [valP, Hd.kv]
    · have hne : x.1 ≠ f := fun z => nd.1 (by rw [z]; exact List.mem_map.mpr ⟨(f, ps), h, rfl⟩)
      have := valP_hds nd.2 h
      simp only [valP, List.map_cons, List.find?_cons] at this ⊢
      have hk : decide ((Hd.kv x).1 = .inr f) = false := by simpa [Hd.kv] using hne
      rw [hk]
      exact this
theorem valP_none : ∀ {hs : List Hd} {f : Str}, f ∉ hs.map (·.1) → valP (hs.map Hd.kv) (.inr f) = none
  | [], _, _ => rfl
  | x :: hs, f, h => by
    simp only [List.map_cons, List.mem_cons, not_or] at h
    have := valP_none (hs := hs) h.2
    simp only [valP, List.map_cons, List.find?_cons] at this ⊢
    have hk : decide ((Hd.kv x).1 = .inr f) = false := by simpa [Hd.kv] using fun z => h.1 z.symm
    rw [hk]
    exact this
theorem putP_new {hs : List Hd} {f : Str} {v : PV} (h : f ∉ hs.map (·.1)) : putP (hs.map Hd.kv) (.inr f) v = hs.map Hd.kv ++ [(.inr f, v)] := by
  unfold putP
  rw [if_neg]
  intro z
  simp only [List.any_map, List.any_eq_true, Function.comp, Hd.kv, decide_eq_true_eq] at z
  obtain ⟨x, hx, e⟩ := z
  exact h (List.mem_map.mpr ⟨x, hx, Sum.inr.inj (of_decide_eq_true e)⟩)
theorem onceK_nd : ∀ {ks acc : List Key}, (acc ++ ks).Nodup → onceK acc ks = acc ++ ks
  | [], acc, _ => by simp [onceK]
  | k :: ks, acc, h => by
    have hk : acc.any (fun j => decide (j = k)) = false := by
      rw [List.any_eq_false]
      intro j hj
      simp only [decide_eq_true_eq]
      intro z
      exact (List.nodup_append.mp h).2.2 j hj k (by simp) z
    unfold onceK
    rw [hk]
    have := onceK_nd (ks := ks) (acc := acc ++ [k]) (by simpa using h)
    simpa using this
theorem keysP_strs : ∀ xs : List Str, keysP (stL xs) = some (xs.map Sum.inr)
  | [] => rfl
  | x :: xs => by
    have := keysP_strs xs
    simp [stL, keysP, keyP] at this ⊢
    rw [this]
abbrev Df := Str × List Str × List Rw
def Df.hd (d : Df) : Hd := (d.1, d.2.1)
def Df.pv (d : Df) : PV := .tup [.str d.1, .tup (stL d.2.1), .tup (Rw.pvs d.2.2)]
/-- heads of a program -/
structure Hds (hs : List Hd) : Prop where
  nd : (hs.map (·.1)).Nodup
  nm : ∀ h ∈ hs, Nm h.1
  pd : ∀ h ∈ hs, h.2.Nodup
  pn : ∀ h ∈ hs, ∀ x ∈ h.2, Nm x
  pl : ∀ h ∈ hs, h.2.length ≤ 4
  main : ((Str.ofString "main", []) : Hd) ∈ hs
  len : hs.length ≤ 6
/-- a program's definitions -/
structure Prg (ds : List Df) : Prop where
  hd : Hds (ds.map Df.hd)
  ok : ∀ d ∈ ds, ∃ ns : List Str, (∀ x ∈ ns, Nm x) ∧ Rw.oks ns (ds.map Df.hd) d.2.2
  dep : ∀ d ∈ ds, Rw.deps d.2.2 ≤ 4
  cnt : ∀ d ∈ ds, (Rw.eachs d.2.2).length ≤ 60
@[simp] theorem cut_1 (a : PV) (xs : List PV) : cutP (a :: xs) (some 1) none = xs := by
  unfold cutP
  have : HT.sIx (a :: xs).length 0 (some 1) = 1 := by
    show HT.sIx (a :: xs).length 0 (some ((1 : Nat) : Int)) = 1
    rw [HT.sIx_nat]
    simp only [List.length_cons]; omega
  rw [this, HT.sIx_none]
  simp
theorem cut_take {xs : List PV} (k : Nat) : cutP xs none (some (k : Int)) = xs.take k := by
  unfold cutP
  rw [HT.sIx_nat, HT.sIx_none]
  simp
end PL
/-! PLW: comprehensions over data that keep what was there; heads; soundness. -/
namespace PL
open PySem PySem.Spec PyProof.Rows L2
theorem Keep.step {M M' : List Nat} {S S1 S2 : Sto} (a : Keep M S S1) (b : Keep M' S1 S2) (h : ∀ x ∈ M', x < S.length → x ∈ M) : Keep M S S2 :=
  ⟨Nat.le_trans a.1 b.1, fun l hl n => (b.2 l (Nat.lt_of_lt_of_le hl a.1) fun z => n (h l z hl)).trans (a.2 l hl n)⟩
theorem dec_wp {c : Prop} [Decidable c] {P : PV → Sto → Prop} {S : Sto} (h1 : c → P (.bl true) S) (h0 : ¬ c → P (.bl false) S) : P (.bl (decide c)) S := by
  by_cases h : c
  · simpa [h] using h1 h
  · simpa [h] using h0 h
theorem accF_wp {α : Type} {P : List PV → Sto → Prop} {R : Str → PV → Sto → Prop} {t : Wk} {g : GM} {st : List PV → En → Sto → Out (List PV)} (i : α → PV) (f : α → List PV) {xs : List α} {acc : List PV} {τ : En} {S : Sto} (hok : ∀ S', Keep [] S S' → t.ok S') (hl : acc.length + (xs.flatMap f).length ≤ 16777216)
    (hs : ∀ x ∈ xs, ∀ (acc : List PV) (S' : Sto) (J : List PV → Sto → Prop), acc.length + (f x).length ≤ 16777216 → Keep [] S S' → (∀ S'', Keep [] S S'' → J (acc ++ f x) S'') → ∃ τ1, g (i x) τ = some τ1 ∧ wp (st acc τ1 S') J R)
    (he : ∀ S', Keep [] S S' → P (acc ++ xs.flatMap f) S') : wp (accL t g st acc (xs.map i) τ S) P R := by
  have key : ∀ (ys : List α) (acc : List PV) (S' : Sto), (∀ x ∈ ys, x ∈ xs) → acc.length + (ys.flatMap f).length ≤ 16777216 → Keep [] S S' → (∀ S'', Keep [] S S'' → P (acc ++ ys.flatMap f) S'') → wp (accL t g st acc (ys.map i) τ S') P R := by
    intro ys
    induction ys with
    | nil => intro acc S' _ _ k he; rw [List.map_nil, accL_nil, if_pos (hok _ k)]; simpa using he S' k
    | cons x ys ih =>
      intro acc S' hm hl k he
      simp only [List.flatMap_cons, List.length_append] at hl
      obtain ⟨τ1, h1, h2⟩ := hs x (hm x (by simp)) acc S' (fun a S => wp (accL t g st a (ys.map i) τ S) P R) (by omega) k (fun S'' k'' => ih (acc ++ f x) S'' (fun y hy => hm y (by simp [hy])) (by rw [List.length_append]; omega) k'' (fun S3 k3 => by simpa [List.flatMap_cons] using he S3 k3))
      simp only [List.map_cons, accL, if_pos (hok _ k), h1]
      rw [wp_bnd]
      exact h2
  exact key xs acc S (fun _ h => h) hl .refl he
theorem flatMap_one {α β : Type} (f : α → β) : ∀ xs : List α, xs.flatMap (fun x => [f x]) = xs.map f
  | [] => rfl
  | x :: xs => by rw [List.flatMap_cons, flatMap_one f xs]; rfl
theorem accK_wp {α : Type} {P : List PV → Sto → Prop} {R : Str → PV → Sto → Prop} {t : Wk} {g : GM} {st : List PV → En → Sto → Out (List PV)} (i : α → PV) (f : α → PV) {xs : List α} {acc : List PV} {τ : En} {S : Sto} (hok : ∀ S', Keep [] S S' → t.ok S') (hl : acc.length + xs.length ≤ 16777216)
    (hs : ∀ x ∈ xs, ∀ (acc : List PV) (S' : Sto) (J : List PV → Sto → Prop), acc.length < 16777216 → Keep [] S S' → (∀ S'', Keep [] S S'' → J (acc ++ [f x]) S'') → ∃ τ1, g (i x) τ = some τ1 ∧ wp (st acc τ1 S') J R)
    (he : ∀ S', Keep [] S S' → P (acc ++ xs.map f) S') : wp (accL t g st acc (xs.map i) τ S) P R := by
  have e : xs.flatMap (fun x => [f x]) = xs.map f := flatMap_one f xs
  refine accF_wp i (fun x => [f x]) hok (by rw [e]; simpa using hl) (fun x hx acc S' J h k => hs x hx acc S' J (by simp at h; omega) k) (fun S' k => by rw [e]; exact he S' k)
theorem len_flatMap_le {α β : Type} {f : α → List β} {c : Nat} : ∀ {xs : List α}, (∀ x ∈ xs, (f x).length ≤ c) → (xs.flatMap f).length ≤ xs.length * c
  | [], _ => by simp
  | x :: xs, h => by
    have h1 := len_flatMap_le (xs := xs) (f := f) (c := c) fun y hy => h y (by simp [hy])
    have h2 := h x (by simp)
    rw [List.flatMap_cons, List.length_append, List.length_cons, Nat.add_mul]
    omega
theorem boolsP_map {α : Type} (f : α → Bool) : ∀ xs : List α, boolsP (xs.map fun x => PV.bl (f x)) = some (xs.map f)
  | [] => rfl
  | x :: xs => by simp [boolsP, boolsP_map f xs]
/-! heads as others -/
def firstH (hs : List Hd) (f : Str) : Option (List Str) := (hs.find? fun h => decide (h.1 = f)).map (·.2)
theorem firstH_app (a b : List Hd) (f : Str) : firstH (a ++ b) f = (firstH a f).or (firstH b f) := by
  unfold firstH
  rw [List.find?_append]
  cases a.find? fun h => decide (h.1 = f) <;> simp
theorem firstH_mem {hs : List Hd} {f : Str} {ps : List Str} (nd : (hs.map (·.1)).Nodup) (h : (f, ps) ∈ hs) : firstH hs f = some ps := by
  induction hs with
  | nil => simp at h
  | cons x hs ih =>
    simp only [List.map_cons, List.nodup_cons] at nd
    rcases List.mem_cons.mp h with h | h
    · subst h; simp [firstH]
    · have hne : x.1 ≠ f := fun z => nd.1 (by rw [z]; exact List.mem_map.mpr ⟨(f, ps), h, rfl⟩)
      have := ih nd.2 h
      simp only [firstH, List.find?_cons, hne, decide_false] at this ⊢
      exact this
structure Oth (od : Nat) (hs : List Hd) (S : Sto) : Prop where
  ex : ∃ kvs : List (Key × PV), S[od]? = some (.dct kvs) ∧ kvs.length ≤ hs.length ∧ ∀ f, valP kvs (.inr f) = (firstH hs f).map fun ps => PV.tup (stL ps)
theorem Oth.keep {od : Nat} {hs : List Hd} {S S' : Sto} {M : List Nat} (o : Oth od hs S) (k : Keep M S S') (h : od ∉ M) : Oth od hs S' := by
  obtain ⟨kvs, h1, h2⟩ := o.ex
  exact ⟨kvs, k.get h1 h, h2⟩
theorem Oth.lt {od : Nat} {hs : List Hd} {S : Sto} (o : Oth od hs S) : od < S.length := by
  obtain ⟨kvs, h1, h2⟩ := o.ex
  exact lt_of_get h1
theorem valP_app (a b : List (Key × PV)) (k : Key) : valP (a ++ b) k = (valP a k).or (valP b k) := by
  unfold valP
  rw [List.find?_append]
  cases a.find? fun kv => decide (kv.1 = k) <;> simp
theorem putP_none {kvs : List (Key × PV)} {k : Key} {v : PV} (h : valP kvs k = none) : putP kvs k v = kvs ++ [(k, v)] := by
  unfold putP
  rw [if_neg]
  intro z
  simp only [List.any_eq_true, decide_eq_true_eq] at z
  obtain ⟨x, hx, e⟩ := z
  simp only [valP, Option.map_eq_none_iff, List.find?_eq_none] at h
  exact absurd e (by simpa using h x hx)
/-! names, soundness -/
def nmB (x : Str) : Bool := decide (1 ≤ x.length) && decide (x.length ≤ 8) && (ch x).all fun c => decide (Lt c)
theorem nmB_iff {x : Str} : nmB x = true ↔ Nm x := by
  unfold nmB
  simp only [Bool.and_eq_true, decide_eq_true_eq, List.all_eq_true]
  exact ⟨fun h => ⟨h.2, h.1.1, h.1.2⟩, fun h => ⟨⟨h.p, h.q⟩, h.l⟩⟩
def callB (hs : List Hd) (c : Cl) : Bool := match firstH hs c.1 with | some ps => decide (ps.length = c.2.length) | none => false
def namesL (d : Df) : List Str := (Rw.eachs d.2.2).flatMap Rw.ins ++ d.2.1
def callsL (d : Df) : List Cl := (Rw.eachs d.2.2).flatMap Rw.callL
def soundB (hs : List Hd) (d : Df) : Bool := (namesL d).all nmB && decide d.2.1.Nodup && (callsL d).all (callB hs)
theorem Prg.sound {ds : List Df} (p : Prg ds) : ∀ d ∈ ds, nmB d.1 = true ∧ soundB (ds.map Df.hd) d = true := by
  intro d hd
  have hh : d.hd ∈ ds.map Df.hd := List.mem_map.mpr ⟨d, hd, rfl⟩
  obtain ⟨ns, h1, h2⟩ := p.ok d hd
  refine ⟨nmB_iff.mpr (p.hd.nm _ hh), ?_⟩
  unfold soundB
  simp only [Bool.and_eq_true, List.all_eq_true, decide_eq_true_eq]
  refine ⟨⟨?_, p.hd.pd _ hh⟩, ?_⟩
  · intro x hx
    rw [nmB_iff]
    rcases List.mem_append.mp hx with hx | hx
    · obtain ⟨r, hr, hx⟩ := List.mem_flatMap.mp hx
      exact h1 x (ins_ok (eachs_ok _ h2 r hr) x hx)
    · exact p.hd.pn _ hh x hx
  · intro c hc
    obtain ⟨r, hr, hc⟩ := List.mem_flatMap.mp hc
    obtain ⟨ps, h3, h4⟩ := callL_ok (eachs_ok _ h2 r hr) c hc
    unfold callB
    rw [firstH_mem p.hd.nd h3]
    simp [h4]
theorem inr_nd : ∀ xs : List Str, ((xs.map Sum.inr : List Key)).Nodup ↔ xs.Nodup
  | [] => by simp
  | x :: xs => by simp [List.nodup_cons, inr_nd xs]
theorem len_set_lt {xs : List Str} : (onceK [] (xs.map Sum.inr)).length < xs.length ↔ ¬ xs.Nodup := by
  have inj := inr_nd xs
  have key : ∀ (ks acc : List Key), (onceK acc ks).length ≤ acc.length + ks.length ∧ (acc.Nodup → (onceK acc ks).length = acc.length + ks.length → (acc ++ ks).Nodup) := by
    intro ks
    induction ks with
    | nil => intro acc; simp [onceK]
    | cons k ks ih =>
      intro acc
      unfold onceK
      by_cases h : (acc.any fun j => decide (j = k)) = true
      · rw [if_pos h]
        have := (ih acc).1
        refine ⟨by simp; omega, fun _ z => ?_⟩
        simp at z; omega
      · rw [if_neg h]
        have h1 := ih (acc ++ [k])
        simp only [List.length_append, List.length_cons, List.length_nil] at h1
        refine ⟨by simp; omega, fun nd z => ?_⟩
        have : (acc ++ [k]).Nodup := by
          refine List.nodup_append.mpr ⟨nd, by simp, ?_⟩
          intro x hx y hy e
          simp at hy
          subst hy
          subst e
          exact h (List.any_eq_true.mpr ⟨x, hx, by simp⟩)
        have := h1.2 this (by simp at z; omega)
        simpa using this
  have h1 := key (xs.map Sum.inr) []
  simp only [List.length_nil, List.length_map, List.nil_append, Nat.zero_add] at h1
  constructor
  · intro h nd
    have : onceK [] (xs.map Sum.inr) = [] ++ xs.map Sum.inr := onceK_nd (by simpa using inj.mpr nd)
    rw [this] at h
    simp at h
  · intro h
    rcases Nat.lt_or_ge (onceK [] (xs.map Sum.inr : List Key)).length xs.length with q | q
    · exact q
    · exact absurd (inj.mp (h1.2 (by simp) (by omega))) h
end PL
/-! PLX: loops over ranges, what values are with their lists read out. -/
namespace PL
open PySem PySem.Spec PyProof.Rows L2
theorem rngI_0 (n : Nat) : rngI 0 (n : Int) = (List.range n).map fun (i : Nat) => PV.int (i : Int) := by
  unfold rngI
  simp
theorem range_split {n i : Nat} {dn rs : List Nat} (h : List.range n = dn ++ i :: rs) : i = dn.length ∧ i < n := by
  have h1 : (List.range n)[dn.length]? = some i := by rw [h]; simp
  have hl : dn.length < n := by
    have := congrArg List.length h
    simp at this; omega
  rw [List.getElem?_range hl] at h1
  cases h1
  exact ⟨rfl, hl⟩
theorem forR_wp {N : En → Sto → Prop} {T : PV → Sto → Prop} {R : Str → PV → En → Sto → Prop} {t : Wk} {g : GM} {b : SM} {n : Nat} (Inv : Nat → En → Sto → Prop) {τ : En} {S : Sto} (h0 : Inv 0 τ S)
    (hs : ∀ i τ S (J : En → Sto → Prop), i < n → Inv i τ S → (∀ τ' S', Inv (i + 1) τ' S' → J τ' S') → t.ok S ∧ ∃ τ1, g (.int (i : Int)) τ = some τ1 ∧ wpS (b τ1 S) J T R)
    (he : ∀ τ S, Inv n τ S → t.ok S ∧ N τ S) : wpS (forL t g b (rngI 0 (n : Int)) τ S) N T R := by
  rw [rngI_0]
  refine forM_wp (fun (i : Nat) => PV.int (i : Int)) (fun dn τ S => Inv dn.length τ S) h0 ?_ ?_
  · intro dn x rs τ S J e h hJ
    obtain ⟨rfl, hl⟩ := range_split e
    exact hs _ τ S J hl h fun τ' S' k => hJ τ' S' (by simpa using k)
  · intro τ S h
    exact he τ S (by simpa using h)
/-! lists read out -/
mutual
def Sn (S : Sto) : PV → PV → Prop
  | .non, p => p = .non
  | .bl b, p => p = .bl b
  | .int i, p => p = .int i
  | .str x, p => p = .str x
  | .tup ds, p => ∃ ps, p = .tup ps ∧ SnL S ds ps
  | .fls ds, p => ∃ l ps, p = .loc l ∧ S[l]? = some (.lst ps) ∧ SnL S ds ps
  | .loc _, _ => False
def SnL (S : Sto) : List PV → List PV → Prop
  | [], ps => ps = []
  | d :: ds, ps => ∃ q qs, ps = q :: qs ∧ Sn S d q ∧ SnL S ds qs
end
mutual
/-- depth, width -/
def AD : Nat → PV → Prop
  | _, .non => True
  | _, .bl _ => True
  | _, .int _ => True
  | _, .str _ => True
  | 0, _ => False
  | n + 1, .tup xs => xs.length ≤ 16777216 ∧ ADL n xs
  | n + 1, .fls xs => xs.length ≤ 16777216 ∧ ADL n xs
  | _, _ => False
def ADL : Nat → List PV → Prop
  | _, [] => True
  | n, x :: xs => AD n x ∧ ADL n xs
end
theorem ADL_iff {n : Nat} : ∀ {xs : List PV}, ADL n xs ↔ ∀ x ∈ xs, AD n x
  | [] => by simp [ADL]
  | x :: xs => by simp [ADL, ADL_iff (xs := xs)]
theorem SnL.length {S : Sto} : ∀ {ds ps : List PV}, SnL S ds ps → ps.length = ds.length
  | [], ps, h => by have h : ps = [] := h; subst h; rfl
  | d :: ds, ps, h => by
    obtain ⟨q, qs, rfl, _, h2⟩ := h
    simp [SnL.length h2]
theorem SnL.get {S : Sto} : ∀ {ds ps : List PV} {i : Nat} {p : PV}, SnL S ds ps → ps[i]? = some p → ∃ d, ds[i]? = some d ∧ Sn S d p
  | [], ps, i, p, h, e => by have h : ps = [] := h; subst h; simp at e
  | d :: ds, ps, 0, p, h, e => by
    obtain ⟨q, qs, rfl, h1, h2⟩ := h
    simp at e; subst e
    exact ⟨d, rfl, h1⟩
  | d :: ds, ps, i + 1, p, h, e => by
    obtain ⟨q, qs, rfl, h1, h2⟩ := h
    obtain ⟨d', e1, e2⟩ := SnL.get (i := i) h2 (by simpa using e)
    exact ⟨d', by simpa using e1, e2⟩
mutual
theorem Sn.keep {S S' : Sto} (k : Keep [] S S') : ∀ (d p : PV), Sn S d p → Sn S' d p
  | .non, _, h => h
  | .bl _, _, h => h
  | .int _, _, h => h
  | .str _, _, h => h
  | .tup ds, p, h => by
    obtain ⟨ps, h1, h2⟩ := h
    exact ⟨ps, h1, SnL.keep k ds ps h2⟩
  | .fls ds, p, h => by
    obtain ⟨l, ps, h1, h2, h3⟩ := h
    exact ⟨l, ps, h1, k.get h2 (by simp), SnL.keep k ds ps h3⟩
  | .loc _, _, h => h
theorem SnL.keep {S S' : Sto} (k : Keep [] S S') : ∀ (ds ps : List PV), SnL S ds ps → SnL S' ds ps
  | [], _, h => h
  | d :: ds, ps, h => by
    obtain ⟨q, qs, h1, h2, h3⟩ := h
    exact ⟨q, qs, h1, Sn.keep k d q h2, SnL.keep k ds qs h3⟩
end
mutual
/-- plain values are what they are -/
theorem Pl.sn {S : Sto} : ∀ (n : Nat) (p : PV), Pl n p → Sn S p p
  | _, .non, _ => rfl
  | _, .int _, _ => rfl
  | _, .str _, _ => rfl
  | 0, .tup _, h => by simp [Pl] at h
  | n + 1, .tup xs, h => ⟨xs, rfl, PlL.sn n xs (by simpa [Pl] using h)⟩
  | n, .bl _, h => by cases n <;> simp [Pl] at h
  | n, .fls _, h => by cases n <;> simp [Pl] at h
  | n, .loc _, h => by cases n <;> simp [Pl] at h
theorem PlL.sn {S : Sto} : ∀ (n : Nat) (xs : List PV), PlL n xs → SnL S xs xs
  | _, [], _ => rfl
  | n, x :: xs, h => by
    have h' : Pl n x ∧ PlL n xs := by simpa [PlL] using h
    exact ⟨x, xs, rfl, Pl.sn n x h'.1, PlL.sn n xs h'.2⟩
end
theorem atI_get {β : Type} {xs : List β} {i : Nat} (h : i < xs.length) : atI xs (i : Int) = xs[i]? := by
  unfold atI ixN
  simp [show ((i : Int) < xs.length) by omega]
@[simp] theorem isi_bool_non {S : Sto} : isiP "bool" .non S = some false := by rfl
@[simp] theorem isi_int_non {S : Sto} : isiP "int" .non S = some false := by rfl
@[simp] theorem isi_str_non {S : Sto} : isiP "str" .non S = some false := by rfl
@[simp] theorem isi_list_non {S : Sto} : isiP "list" .non S = some false := by rfl
@[simp] theorem isi_tuple_non {S : Sto} : isiP "tuple" .non S = some false := by rfl
theorem dict_wp {P : PV → Sto → Prop} {R : Str → PV → Sto → Prop} {τ : En} {S : Sto} (h : ∀ n S', S'[n]? = some (.dct []) → Keep [] S S' → S.length ≤ n → P (.loc n) S') : wp (dictM τ S) P R := by
  rw [e_dictM]; exact alloc_wp h
theorem Oth.put {od : Nat} {hs : List Hd} {S : Sto} {f : Str} {ps : List Str} (o : Oth od hs S) (hl : hs.length < 1000) :
    ∃ kvs : List (Key × PV), S[od]? = some (.dct kvs) ∧ kvs.length < 16777216 ∧ (∀ v, valP kvs (.inr f) = some v → Oth od (hs ++ [(f, ps)]) S) ∧ (valP kvs (.inr f) = none → Oth od (hs ++ [(f, ps)]) (S.set od (.dct (putP kvs (.inr f) (.tup (stL ps)))))) := by
  obtain ⟨kvs, h1, h2, h3⟩ := o.ex
  refine ⟨kvs, h1, by omega, fun v hv => ⟨kvs, h1, by simp; omega, fun g => ?_⟩, fun hv => ⟨_, set_get h1, by rw [putP_none hv]; simp; omega, fun g => ?_⟩⟩
  · rw [firstH_app, h3 g]
    by_cases hg : g = f
    · subst hg
      rw [h3 g] at hv
      cases q : firstH hs g with
      | none => rw [q] at hv; simp at hv
      | some ps => simp
    · have : firstH [(f, ps)] g = none := by simp [firstH, Ne.symm hg]
      rw [this]; simp
  · rw [putP_none hv, valP_app, firstH_app, h3 g]
    by_cases hg : g = f
    · subst hg
      rw [h3 g] at hv
      cases q : firstH hs g with
      | none => simp [valP, firstH]
      | some ps => rw [q] at hv; simp at hv
    · have h1 : firstH [(f, ps)] g = none := by simp [firstH, Ne.symm hg]
      have h2 : valP [((.inr f : Key), PV.tup (stL ps))] (.inr g) = none := by simp [valP, Ne.symm hg]
      rw [h1, h2]; simp
end PL
/-! PLY: programs as objects; rows are plain. -/
namespace PL
open PySem PySem.Spec PyProof.Rows L2
@[simp] theorem ofS_beq (a b : String) : (Str.ofString a == Str.ofString b) = (a == b) := by
  by_cases h : a = b
  · simp [h]
  · have h1 : Str.ofString a ≠ Str.ofString b := fun z => h (ofString_inj.mp z)
    have e1 : (Str.ofString a == Str.ofString b) = false := by simpa using h1
    have e2 : (a == b) = false := by simpa using h
    rw [e1, e2]
/-- a Program at l, of these definitions -/
def PrgAt (l : Nat) (ds : List Df) (S : Sto) : Prop := ∃ n, S[l]? = some (.ins "Program" [(Str.ofString "definitions_kept", .loc n)]) ∧ S[n]? = some (.lst (ds.map Df.pv))
theorem PrgAt.keep {l : Nat} {ds : List Df} {S S' : Sto} (p : PrgAt l ds S) (k : Keep [] S S') : PrgAt l ds S' := by
  obtain ⟨n, h1, h2⟩ := p
  exact ⟨n, k.get h1 (by simp), k.get h2 (by simp)⟩
theorem Lw.ok {x : Str} (h : Lw x) : x.cps.all (· < 0x110000) = true := by
  have := h.plain 0
  simpa [Pl] using this
/-- names whose letters are letters of some kind -/
def Fair (x : Str) : Prop := x.cps.all (· < 0x110000) = true
theorem Fair.pl {x : Str} (h : Fair x) (n : Nat) : Pl n (.str x) := by cases n <;> exact h
theorem Nm.fair {x : Str} (h : Nm x) : Fair x := h.l.ok
theorem fairL {n : Nat} {xs : List Str} (h : ∀ x ∈ xs, Fair x) : PlL n (stL xs) := PlL_iff.mpr fun p hp => by
  obtain ⟨x, hx, rfl⟩ := List.mem_map.mp hp
  exact (h x hx).pl n
theorem ofS_fair (s : String) (h : (Str.ofString s).cps.all (· < 0x110000) = true := by decide +kernel) : Fair (Str.ofString s) := h
def Vl.fair : Vl → Prop
  | .num _ => True
  | .copy x => Fair x
  | .add x y => Fair x ∧ Fair y
  | .read => True
  | .clean x => Fair x
  | .call f xs => Fair f ∧ ∀ x ∈ xs, Fair x
mutual
def Rw.fair : Rw → Prop
  | .set x v => Fair x ∧ v.fair
  | .iff x a b => Fair x ∧ Rw.fairs a ∧ Rw.fairs b
  | .send x => Fair x
  | .give x => Fair x
def Rw.fairs : List Rw → Prop
  | [] => True
  | r :: rs => r.fair ∧ Rw.fairs rs
end
theorem fairs_iff : ∀ {rs : List Rw}, Rw.fairs rs ↔ ∀ r ∈ rs, r.fair
  | [] => by simp [Rw.fairs]
  | r :: rs => by simp [Rw.fairs, fairs_iff (rs := rs)]
theorem Vl.pl {v : Vl} (h : v.fair) : Pl 2 v.pv := by
  cases v with
  | num i => simp only [Vl.pv, Pl, PlL]; exact ⟨ofS_fair "num", trivial, trivial⟩
  | read => simp only [Vl.pv, Pl, PlL]; exact ⟨ofS_fair "read", trivial⟩
  | copy x => simp only [Vl.pv, Pl, PlL]; exact ⟨ofS_fair "copy", h, trivial⟩
  | clean x => simp only [Vl.pv, Pl, PlL]; exact ⟨ofS_fair "clean", h, trivial⟩
  | add x y => simp only [Vl.pv, Pl, PlL]; exact ⟨ofS_fair "add", h.1, h.2, trivial⟩
  | call f xs => simp only [Vl.pv, Pl, PlL]; exact ⟨ofS_fair "call", h.1, fairL h.2, trivial⟩
theorem PlL.le {n m : Nat} {xs : List PV} (h : PlL n xs) (k : n ≤ m) : PlL m xs := PlL_iff.mpr fun x hx => (PlL_iff.mp h x hx).le k
mutual
theorem Rw.pl : ∀ {r : Rw}, r.fair → ∀ n, 2 * r.dep + 1 ≤ n → Pl n r.pv
  | .set x v, h, n, hn => by
    simp only [Rw.dep] at hn
    obtain ⟨n, rfl⟩ : ∃ m, n = m + 3 := ⟨n - 3, by omega⟩
    simp only [Rw.pv, Pl, PlL]
    exact ⟨ofS_fair "set", h.1, (Vl.pl h.2).le (by omega), trivial⟩
  | .send x, h, n, hn => by
    simp only [Rw.dep] at hn
    obtain ⟨n, rfl⟩ : ∃ m, n = m + 3 := ⟨n - 3, by omega⟩
    simp only [Rw.pv, Pl, PlL]
    exact ⟨ofS_fair "send", h, trivial⟩
  | .give x, h, n, hn => by
    simp only [Rw.dep] at hn
    obtain ⟨n, rfl⟩ : ∃ m, n = m + 3 := ⟨n - 3, by omega⟩
    simp only [Rw.pv, Pl, PlL]
    exact ⟨ofS_fair "give", h, trivial⟩
  | .iff x a b, h, n, hn => by
    simp only [Rw.dep] at hn
    obtain ⟨n, rfl⟩ : ∃ m, n = m + 3 := ⟨n - 3, by omega⟩
    simp only [Rw.pv, Pl, PlL]
    exact ⟨ofS_fair "if", h.1, Rw.pls h.2.1 _ (by omega), Rw.pls h.2.2 _ (by omega), trivial⟩
theorem Rw.pls : ∀ {rs : List Rw}, Rw.fairs rs → ∀ n, 2 * Rw.deps rs + 1 ≤ n → PlL n (Rw.pvs rs)
  | [], _, n, _ => by simp [Rw.pvs, PlL]
  | r :: rs, h, n, hn => by
    simp only [Rw.deps] at hn
    exact ⟨Rw.pl h.1 n (by omega), Rw.pls h.2 n (by omega)⟩
end
theorem Vl.fair_of {ns : List Str} {hs : List Hd} {v : Vl} (hn : ∀ x ∈ ns, Fair x) (hh : ∀ h ∈ hs, Fair h.1) (h : v.ok ns hs) : v.fair := by
  cases v with
  | num i => trivial
  | read => trivial
  | copy x => exact hn x h
  | clean x => exact hn x h
  | add x y => exact ⟨hn x h.1, hn y h.2⟩
  | call f xs => obtain ⟨h1, ps, h2, _⟩ := h; exact ⟨hh _ h2, fun x hx => hn x (h1 x hx)⟩
mutual
theorem Rw.fair_of {ns : List Str} {hs : List Hd} (hn : ∀ x ∈ ns, Fair x) (hh : ∀ h ∈ hs, Fair h.1) : ∀ {r : Rw}, r.ok ns hs → r.fair
  | .set x v, h => ⟨hn x h.1, Vl.fair_of hn hh h.2⟩
  | .send x, h => hn x h
  | .give x, h => hn x h
  | .iff x a b, h => ⟨hn x h.1, Rw.fairs_of hn hh h.2.1, Rw.fairs_of hn hh h.2.2⟩
theorem Rw.fairs_of {ns : List Str} {hs : List Hd} (hn : ∀ x ∈ ns, Fair x) (hh : ∀ h ∈ hs, Fair h.1) : ∀ {rs : List Rw}, Rw.oks ns hs rs → Rw.fairs rs
  | [], _ => trivial
  | r :: rs, h => ⟨Rw.fair_of hn hh h.1, Rw.fairs_of hn hh h.2⟩
end
mutual
theorem each_fair : ∀ (r : Rw), r.fair → ∀ q ∈ r.each, q.fair
  | .set x v, h, q, hq => by simp [Rw.each] at hq; subst hq; exact h
  | .send x, h, q, hq => by simp [Rw.each] at hq; subst hq; exact h
  | .give x, h, q, hq => by simp [Rw.each] at hq; subst hq; exact h
  | .iff x a b, h, q, hq => by
    simp only [Rw.each, List.mem_cons, List.mem_append] at hq
    rcases hq with rfl | hq | hq
    · exact h
    · exact eachs_fair a h.2.1 q hq
    · exact eachs_fair b h.2.2 q hq
theorem eachs_fair : ∀ (rs : List Rw), Rw.fairs rs → ∀ q ∈ Rw.eachs rs, q.fair
  | [], _, q, hq => by simp [Rw.eachs] at hq
  | r :: rs, h, q, hq => by
    simp only [Rw.eachs, List.mem_append] at hq
    rcases hq with hq | hq
    · exact each_fair r h.1 q hq
    · exact eachs_fair rs h.2 q hq
end
mutual
theorem each_dep : ∀ (r : Rw), ∀ q ∈ r.each, q.dep ≤ r.dep
  | .set x v, q, hq => by simp [Rw.each] at hq; subst hq; exact Nat.le_refl _
  | .send x, q, hq => by simp [Rw.each] at hq; subst hq; exact Nat.le_refl _
  | .give x, q, hq => by simp [Rw.each] at hq; subst hq; exact Nat.le_refl _
  | .iff x a b, q, hq => by
    simp only [Rw.each, List.mem_cons, List.mem_append] at hq
    rcases hq with rfl | hq | hq
    · exact Nat.le_refl _
    · have := eachs_dep a q hq; simp only [Rw.dep]; omega
    · have := eachs_dep b q hq; simp only [Rw.dep]; omega
theorem eachs_dep : ∀ (rs : List Rw), ∀ q ∈ Rw.eachs rs, q.dep ≤ Rw.deps rs
  | [], q, hq => by simp [Rw.eachs] at hq
  | r :: rs, q, hq => by
    simp only [Rw.eachs, List.mem_append] at hq
    simp only [Rw.deps]
    rcases hq with hq | hq
    · have := each_dep r q hq; omega
    · have := eachs_dep rs q hq; omega
end
mutual
theorem each_sub1 : ∀ (r q : Rw), q ∈ r.each → (∀ s ∈ q.each, s ∈ r.each) ∧ q.each.length ≤ r.each.length
  | .set x v, q, hq => by simp [Rw.each] at hq; subst hq; exact ⟨fun s h => h, Nat.le_refl _⟩
  | .send x, q, hq => by simp [Rw.each] at hq; subst hq; exact ⟨fun s h => h, Nat.le_refl _⟩
  | .give x, q, hq => by simp [Rw.each] at hq; subst hq; exact ⟨fun s h => h, Nat.le_refl _⟩
  | .iff x a b, q, hq => by
    simp only [Rw.each, List.mem_cons, List.mem_append] at hq
    rcases hq with rfl | hq | hq
    · exact ⟨fun s h => h, Nat.le_refl _⟩
    · have := each_subs a q hq
      refine ⟨fun s hs => ?_, ?_⟩
      · simp only [Rw.each, List.mem_cons, List.mem_append]; exact .inr (.inl (this.1 s hs))
      · simp only [Rw.each, List.length_cons, List.length_append]; have := this.2; omega
    · have := each_subs b q hq
      refine ⟨fun s hs => ?_, ?_⟩
      · simp only [Rw.each, List.mem_cons, List.mem_append]; exact .inr (.inr (this.1 s hs))
      · simp only [Rw.each, List.length_cons, List.length_append]; have := this.2; omega
theorem each_subs : ∀ (rs : List Rw) (q : Rw), q ∈ Rw.eachs rs → (∀ s ∈ q.each, s ∈ Rw.eachs rs) ∧ q.each.length ≤ (Rw.eachs rs).length
  | [], q, hq => by simp [Rw.eachs] at hq
  | r :: rs, q, hq => by
    simp only [Rw.eachs, List.mem_append] at hq
    rcases hq with hq | hq
    · have := each_sub1 r q hq
      refine ⟨fun s hs => ?_, ?_⟩
      · simp only [Rw.eachs, List.mem_append]; exact .inl (this.1 s hs)
      · simp only [Rw.eachs, List.length_append]; have := this.2; omega
    · have := each_subs rs q hq
      refine ⟨fun s hs => ?_, ?_⟩
      · simp only [Rw.eachs, List.mem_append]; exact .inr (this.1 s hs)
      · simp only [Rw.eachs, List.length_append]; have := this.2; omega
end
theorem each_sub (rs : List Rw) (r : Rw) (h : r ∈ Rw.eachs rs) : ∀ q ∈ r.each, q ∈ Rw.eachs rs := (each_subs rs r h).1
theorem each_len (rs : List Rw) (r : Rw) (h : r ∈ Rw.eachs rs) : r.each.length ≤ (Rw.eachs rs).length := (each_subs rs r h).2
/-- definitions whose letters are letters, at most so deep -/
def Df.fair (d : Df) : Prop := Fair d.1 ∧ (∀ x ∈ d.2.1, Fair x) ∧ Rw.fairs d.2.2
theorem Df.pl {d : Df} (h : d.fair) {n : Nat} (hn : 2 * Rw.deps d.2.2 + 3 ≤ n) : Pl n d.pv := by
  obtain ⟨n, rfl⟩ : ∃ m, n = m + 2 := ⟨n - 2, by omega⟩
  simp only [Df.pv, Pl, PlL]
  exact ⟨h.1, fairL h.2.1, Rw.pls h.2.2 _ (by omega), trivial⟩
theorem Prg.fair {ds : List Df} (p : Prg ds) : ∀ d ∈ ds, d.fair := by
  intro d hd
  have hh : d.hd ∈ ds.map Df.hd := List.mem_map.mpr ⟨d, hd, rfl⟩
  obtain ⟨ns, h1, h2⟩ := p.ok d hd
  exact ⟨(p.hd.nm _ hh).fair, fun x hx => (p.hd.pn _ hh x hx).fair, Rw.fairs_of (fun x hx => (h1 x hx).fair) (fun h hm => (p.hd.nm h hm).fair) h2⟩
theorem dfs_pl {ds : List Df} {n m : Nat} (hf : ∀ d ∈ ds, d.fair) (hd : ∀ d ∈ ds, Rw.deps d.2.2 ≤ m) (hn : 2 * m + 3 ≤ n) : PlL n (ds.map Df.pv) := PlL_iff.mpr fun p hp => by
  obtain ⟨d, hm, rfl⟩ := List.mem_map.mp hp
  have := hd d hm
  exact Df.pl (hf d hm) (by omega)
mutual
/-- widths are bounded as well -/
def Wd : Nat → PV → Prop
  | m, .tup xs => xs.length ≤ m ∧ WdL m xs
  | m, .fls xs => xs.length ≤ m ∧ WdL m xs
  | _, _ => True
def WdL : Nat → List PV → Prop
  | _, [] => True
  | m, x :: xs => Wd m x ∧ WdL m xs
end
theorem WdL_iff {n : Nat} : ∀ {xs : List PV}, WdL n xs ↔ ∀ x ∈ xs, Wd n x
  | [] => by simp [WdL]
  | x :: xs => by simp [WdL, WdL_iff (xs := xs)]
mutual
theorem Pl.ad : ∀ (n : Nat) (p : PV), Pl n p → Wd 16777216 p → AD n p
  | _, .non, _, _ => by simp [AD]
  | _, .int _, _, _ => by simp [AD]
  | _, .str _, _, _ => by simp [AD]
  | 0, .tup _, h, _ => by simp [Pl] at h
  | n + 1, .tup xs, h, w => by
    have w : xs.length ≤ 16777216 ∧ WdL 16777216 xs := w
    exact ⟨w.1, PlL.ad n xs h w.2⟩
  | n, .bl _, h, _ => by cases n <;> simp [Pl] at h
  | n, .fls _, h, _ => by cases n <;> simp [Pl] at h
  | n, .loc _, h, _ => by cases n <;> simp [Pl] at h
theorem PlL.ad : ∀ (n : Nat) (xs : List PV), PlL n xs → WdL 16777216 xs → ADL n xs
  | _, [], _, _ => by simp [ADL]
  | n, x :: xs, h, w => by
    have h' : Pl n x ∧ PlL n xs := h
    have w' : Wd 16777216 x ∧ WdL 16777216 xs := w
    exact ⟨Pl.ad n x h'.1 w'.1, PlL.ad n xs h'.2 w'.2⟩
end
theorem wd_stL {m : Nat} (xs : List Str) : WdL m (stL xs) := WdL_iff.mpr fun p hp => by
  obtain ⟨x, hx, rfl⟩ := List.mem_map.mp hp
  simp [Wd]
theorem Vl.wd {v : Vl} {m : Nat} (h : v.asked.length ≤ m) (hm : 5 ≤ m) : Wd m v.pv := by
  cases v with
  | call f xs => simp only [Vl.pv, Wd, WdL]; exact ⟨by simp; omega, trivial, trivial, ⟨by simpa [stL, Vl.asked] using h, wd_stL _⟩, trivial⟩
  | _ => simp only [Vl.pv, Wd, WdL]; exact ⟨by simp; omega, by simp⟩
mutual
theorem Rw.wd {m : Nat} (hm : 5 ≤ m) : ∀ {r : Rw}, r.each.length ≤ m → (∀ q ∈ r.each, q.ins.length ≤ m) → Wd m r.pv
  | .set x v, _, h => by
    have := h (.set x v) (by simp [Rw.each])
    simp only [Rw.pv, Wd, WdL]
    exact ⟨by simp; omega, trivial, trivial, Vl.wd (by simp [Rw.ins] at this; omega) hm, trivial⟩
  | .send x, _, h => by simp only [Rw.pv, Wd, WdL]; exact ⟨by simp; omega, by simp⟩
  | .give x, _, h => by simp only [Rw.pv, Wd, WdL]; exact ⟨by simp; omega, by simp⟩
  | .iff x a b, hl, h => by
    simp only [Rw.each, List.length_cons, List.length_append] at hl
    simp only [Rw.each, List.mem_cons, List.mem_append] at h
    have la := len_eachs a
    have lb := len_eachs b
    simp only [Rw.pv, Wd, WdL]
    exact ⟨by simp; omega, trivial, trivial, ⟨by rw [pvs_map, List.length_map]; omega, Rw.wds hm (by omega) fun q hq => h q (.inr (.inl hq))⟩, ⟨by rw [pvs_map, List.length_map]; omega, Rw.wds hm (by omega) fun q hq => h q (.inr (.inr hq))⟩, trivial⟩
theorem Rw.wds {m : Nat} (hm : 5 ≤ m) : ∀ {rs : List Rw}, (Rw.eachs rs).length ≤ m → (∀ q ∈ Rw.eachs rs, q.ins.length ≤ m) → WdL m (Rw.pvs rs)
  | [], _, _ => trivial
  | r :: rs, hl, h => by
    simp only [Rw.eachs, List.length_append] at hl
    simp only [Rw.eachs, List.mem_append] at h
    exact ⟨Rw.wd hm (by omega) fun q hq => h q (.inl hq), Rw.wds hm (by omega) fun q hq => h q (.inr hq)⟩
end
/-- sizes that the model bears -/
structure Sized (ds : List Df) : Prop where
  len : ds.length < 1000
  dep : ∀ d ∈ ds, Rw.deps d.2.2 < 6
  cnt : ∀ d ∈ ds, (Rw.eachs d.2.2).length ≤ 1000
  ins : ∀ d ∈ ds, ∀ r ∈ Rw.eachs d.2.2, r.ins.length ≤ 1000
  par : ∀ d ∈ ds, d.2.1.length ≤ 1000
  nms : ∀ d ∈ ds, ∀ x ∈ namesL d, x.length ≤ 1000
  own : ∀ d ∈ ds, d.1.length ≤ 1000
theorem Df.wd {ds : List Df} (z : Sized ds) {d : Df} (hd : d ∈ ds) : Wd 16777216 d.pv := by
  have h1 := z.cnt d hd
  have h2 := len_eachs d.2.2
  have h3 := z.par d hd
  simp only [Df.pv, Wd, WdL]
  exact ⟨by simp, trivial, ⟨by simp [stL]; omega, wd_stL _⟩, ⟨by rw [pvs_map, List.length_map]; omega, Rw.wds (by omega) (by omega) fun q hq => by have := z.ins d hd q hq; omega⟩, trivial⟩
theorem Prg.sized {ds : List Df} (p : Prg ds) : Sized ds := by
  have hl : ds.length ≤ 6 := by have := p.hd.len; simpa using this
  refine ⟨by omega, fun d hd => by have := p.dep d hd; omega, fun d hd => by have := p.cnt d hd; omega, fun d hd r hr => ?_, fun d hd => ?_, fun d hd x hx => ?_, fun d hd => ?_⟩
  · obtain ⟨ns, h1, h2⟩ := p.ok d hd
    have := ins_len (eachs_ok _ h2 r hr) p.hd.pl
    omega
  · have := p.hd.pl d.hd (List.mem_map.mpr ⟨d, hd, rfl⟩)
    show d.2.1.length ≤ 1000
    have : d.2.1.length ≤ 4 := this
    omega
  · have := (p.sound d hd).2
    unfold soundB at this
    simp only [Bool.and_eq_true, List.all_eq_true] at this
    have := (nmB_iff.mp (this.1.1 x hx)).q
    omega
  · have := (nmB_iff.mp (p.sound d hd).1).q
    omega
def cntL (ds : List Df) : Nat := (ds.flatMap fun d => Rw.eachs d.2.2).length
theorem cntL_add (ds : List Df) (d : Df) : cntL (ds ++ [d]) = cntL ds + (Rw.eachs d.2.2).length := by
  unfold cntL
  rw [List.flatMap_append, List.length_append]
  simp [List.flatMap_cons]
theorem cntL_nil : cntL [] = 0 := rfl
theorem cntL_le {ds : List Df} (z : Sized ds) : cntL ds ≤ ds.length * 1000 := len_flatMap_le z.cnt
theorem Prg.main {ds : List Df} (p : Prg ds) : firstH (ds.map Df.hd) (Str.ofString "main") = some [] := firstH_mem p.hd.nd p.hd.main
theorem Prg.nd {ds : List Df} (p : Prg ds) : (ds.map (·.1)).Nodup := by
  have := p.hd.nd
  rw [List.map_map] at this
  exact this
theorem find_of {ds : List Df} {d : Df} (nd : (ds.map (·.1)).Nodup) (h : d ∈ ds) : ds.find? (fun e => decide (e.1 = d.1)) = some d := by
  induction ds with
  | nil => simp at h
  | cons x ds ih =>
    simp only [List.map_cons, List.nodup_cons] at nd
    rcases List.mem_cons.mp h with h | h
    · subst h; simp
    · have hne : x.1 ≠ d.1 := fun z => nd.1 (by rw [z]; exact List.mem_map.mpr ⟨d, h, rfl⟩)
      rw [List.find?_cons]
      simp only [hne, decide_false]
      exact ih nd.2 h
end PL
/-! PLT: dicts of pairs, unpacked lists, lists of truths. -/
namespace PL
open PySem PySem.Spec PyProof.Rows L2
section
variable {P : PV → Sto → Prop} {R : Str → PV → Sto → Prop} {S : Sto} {xs : List PV} {kvs : List (Key × PV)} {l : Nat}
theorem dictL_wp (h1 : S[l]? = some (.lst xs)) (h2 : pairsP xs = some kvs) (h : ∀ n S', S'[n]? = some (.dct (mergeP [] kvs)) → Keep [] S S' → S.length ≤ n → P (.loc n) S') : wp (lift (dictLP (.loc l) S)) P R := by
  unfold dictLP
  simp only [h1, h2, Option.map_some, lift_some, wp_ok]
  exact alloc_wp h
end
theorem pairsP_map {α : Type} (f : α → Str) (g : α → PV) : ∀ xs : List α, pairsP (xs.map fun x => .tup [.str (f x), g x]) = some (xs.map fun x => ((.inr (f x) : Key), g x))
  | [] => rfl
  | x :: xs => by simp [pairsP, pairP, keyP, pairsP_map f g xs]
theorem mergeP_nd : ∀ (more acc : List (Key × PV)), ((acc ++ more).map (·.1)).Nodup → mergeP acc more = acc ++ more
  | [], acc, _ => by simp [mergeP]
  | (k, v) :: more, acc, h => by
    have hn : valP acc k = none := by
      simp only [valP, Option.map_eq_none_iff, List.find?_eq_none, decide_eq_true_eq]
      intro x hx e
      rw [List.map_append, List.map_cons] at h
      exact (List.nodup_append.mp h).2.2 x.1 (List.mem_map.mpr ⟨x, hx, rfl⟩) k (by simp) e
    show mergeP (putP acc k v) more = _
    rw [putP_none hn, mergeP_nd more (acc ++ [(k, v)]) (by simpa using h)]
    simp
theorem valP_map {α : Type} (f : α → Str) (g : α → PV) (x : Str) : ∀ xs : List α, valP (xs.map fun y => ((.inr (f y) : Key), g y)) (.inr x) = (xs.find? fun y => decide (f y = x)).map g
  | [] => rfl
  | y :: ys => by
    have ih := valP_map f g x ys
    simp only [valP, List.map_cons, List.find?_cons] at ih ⊢
    by_cases h : f y = x
    · simp [h]
    · have h1 : decide ((Sum.inr (f y) : Key) = Sum.inr x) = false := by simpa using h
      have h2 : decide (f y = x) = false := by simpa using h
      rw [h1, h2]
      exact ih
def asgLO (n : Nat) (g : GMs) (τ : En) : PV → Sto → OS := fun v S1 => match v with
  | .loc l => (match S1[l]? with
    | some (.lst xs) => if xs.length = n then (match g xs τ with | some τ1 => .nx τ1 S1 | none => .bad) else .bad
    | _ => .bad)
  | _ => .bad
@[simp] theorem e_asgLS (n : Nat) (m : EM PV) (g : GMs) (τ : En) (S : Sto) : asgLS n m g τ S = bndS (m τ S) τ (asgLO n g τ) := rfl
@[simp] theorem e_asgLO (n : Nat) (g : GMs) (τ : En) (l : Nat) (S1 : Sto) : asgLO n g τ (.loc l) S1 = match S1[l]? with
    | some (.lst xs) => if xs.length = n then (match g xs τ with | some τ1 => .nx τ1 S1 | none => .bad) else .bad
    | _ => .bad := rfl
@[simp] theorem intP_bl (b : Bool) (S : Sto) : intP (.bl b) S = some (.int (if b then 1 else 0), S) := (rfl)
/-! plain values and truths -/
def PlB (n : Nat) (p : PV) : Prop := Pl n p ∨ ∃ b, p = .bl b
theorem PlB.toD {n : Nat} {p : PV} (h : PlB n p) : ∃ d, toD p = some d ∧ d.canLay0 = true ∧ d.depth ≤ n := by
  rcases h with h | ⟨b, rfl⟩
  · exact Pl.toD n p h
  · exact ⟨_, rfl, rfl, Nat.zero_le _⟩
theorem PlB.toDL {n : Nat} : ∀ {xs : List PV}, (∀ x ∈ xs, PlB n x) → ∃ ds, PL.toDL xs = some ds ∧ PyData.canLayAll0 ds = true ∧ PyData.depthAll ds ≤ n ∧ ds.length = xs.length
  | [], _ => ⟨[], rfl, rfl, Nat.zero_le _, rfl⟩
  | x :: xs, h => by
    obtain ⟨d, h1, h2, h3⟩ := (h x (by simp)).toD
    obtain ⟨ds, h4, h5, h6, h7⟩ := PlB.toDL (xs := xs) fun y hy => h y (by simp [hy])
    exact ⟨d :: ds, by simp [PL.toDL, h1, h4], by simp [PyData.canLayAll0, h2, h5], by show max d.depth (PyData.depthAll ds) ≤ n; omega, by simp [h7]⟩
theorem eqB_lnil {n : Nat} {l k : Nat} {xs : List PV} {S : Sto} (hn : n < 64) (hl : S[l]? = some (.lst xs)) (hk : S[k]? = some (.lst [])) (hp : ∀ x ∈ xs, PlB n x) : eqB (.loc l) (.loc k) S = some xs.isEmpty := by
  obtain ⟨d, h1, h2, h3, h7⟩ := PlB.toDL hp
  unfold eqB
  have hd : SeqAt.shaped (.list d) = true := shaped_of h2 (by show PyData.depthAll d + 1 ≤ 64; omega)
  have he : SeqAt.shaped (.list []) = true := shaped_of rfl (by decide)
  simp only [toDS, hl, hk, h1, PL.toDL, Option.map_some, hd, he, and_self, if_true]
  cases xs with
  | nil => cases d with
    | nil => rfl
    | cons _ _ => simp at h7
  | cons x xs => cases d with
    | nil => simp at h7
    | cons a b => simp [PyData.eqv, PyData.eqvAll]
end PL
/-! PLRN: programs with their names called otherwise; programs nearly good. -/
namespace PL
open PySem PySem.Spec PyProof.Rows L2
def Vl.mapN (f : Str → Str) : Vl → Vl
  | .num i => .num i
  | .copy x => .copy (f x)
  | .add x y => .add (f x) (f y)
  | .read => .read
  | .clean x => .clean (f x)
  | .call g xs => .call (f g) (xs.map f)
mutual
def Rw.mapN (f : Str → Str) : Rw → Rw
  | .set x v => .set (f x) (v.mapN f)
  | .iff x a b => .iff (f x) (Rw.mapsN f a) (Rw.mapsN f b)
  | .send x => .send (f x)
  | .give x => .give (f x)
def Rw.mapsN (f : Str → Str) : List Rw → List Rw
  | [] => []
  | r :: rs => r.mapN f :: Rw.mapsN f rs
end
theorem mapsN_map (f : Str → Str) : ∀ rs : List Rw, Rw.mapsN f rs = rs.map (Rw.mapN f)
  | [] => rfl
  | r :: rs => by simp [Rw.mapsN, mapsN_map f rs]
def Hd.mapN (f : Str → Str) (h : Hd) : Hd := (f h.1, h.2.map f)
def Df.mapN (f : Str → Str) (d : Df) : Df := (f d.1, d.2.1.map f, Rw.mapsN f d.2.2)
mutual
theorem each_mapN (f : Str → Str) : ∀ r : Rw, (r.mapN f).each = r.each.map (Rw.mapN f)
  | .set x v => by simp [Rw.mapN, Rw.each]
  | .send x => by simp [Rw.mapN, Rw.each]
  | .give x => by simp [Rw.mapN, Rw.each]
  | .iff x a b => by simp only [Rw.mapN, Rw.each, eachs_mapN f a, eachs_mapN f b, List.map_cons, List.map_append]
theorem eachs_mapN (f : Str → Str) : ∀ rs : List Rw, Rw.eachs (Rw.mapsN f rs) = (Rw.eachs rs).map (Rw.mapN f)
  | [] => rfl
  | r :: rs => by simp only [Rw.mapsN, Rw.eachs, each_mapN f r, eachs_mapN f rs, List.map_append]
end
mutual
theorem dep_mapN (f : Str → Str) : ∀ r : Rw, (r.mapN f).dep = r.dep
  | .set x v => by simp [Rw.mapN, Rw.dep]
  | .send x => by simp [Rw.mapN, Rw.dep]
  | .give x => by simp [Rw.mapN, Rw.dep]
  | .iff x a b => by simp only [Rw.mapN, Rw.dep, deps_mapN f a, deps_mapN f b]
theorem deps_mapN (f : Str → Str) : ∀ rs : List Rw, Rw.deps (Rw.mapsN f rs) = Rw.deps rs
  | [] => rfl
  | r :: rs => by simp only [Rw.mapsN, Rw.deps, dep_mapN f r, deps_mapN f rs]
end
theorem asked_mapN (f : Str → Str) (v : Vl) : (v.mapN f).asked = v.asked.map f := by cases v <;> simp [Vl.mapN, Vl.asked]
theorem ins_mapN (f : Str → Str) (r : Rw) : (r.mapN f).ins = r.ins.map f := by cases r <;> simp [Rw.mapN, Rw.ins, asked_mapN]
def Cl.mapN (f : Str → Str) (c : Cl) : Cl := (f c.1, c.2.map f)
theorem callL_mapN (f : Str → Str) (r : Rw) : (r.mapN f).callL = r.callL.map (Cl.mapN f) := by
  cases r with
  | set x v => cases v <;> simp [Rw.mapN, Vl.mapN, Rw.callL, Cl.mapN]
  | _ => simp [Rw.mapN, Rw.callL]
theorem namesL_mapN (f : Str → Str) (d : Df) : namesL (d.mapN f) = (namesL d).map f := by
  simp only [namesL, Df.mapN, eachs_mapN, List.flatMap_map, List.map_append, List.map_flatMap, ins_mapN]
theorem callsL_mapN (f : Str → Str) (d : Df) : callsL (d.mapN f) = (callsL d).map (Cl.mapN f) := by
  simp only [callsL, Df.mapN, eachs_mapN, List.flatMap_map, List.map_flatMap, callL_mapN]
/-! all names of some kind -/
def Vl.All (p : Str → Prop) : Vl → Prop
  | .num _ => True
  | .copy x => p x
  | .add x y => p x ∧ p y
  | .read => True
  | .clean x => p x
  | .call g xs => p g ∧ ∀ x ∈ xs, p x
mutual
def Rw.All (p : Str → Prop) : Rw → Prop
  | .set x v => p x ∧ v.All p
  | .iff x a b => p x ∧ Rw.Alls p a ∧ Rw.Alls p b
  | .send x => p x
  | .give x => p x
def Rw.Alls (p : Str → Prop) : List Rw → Prop
  | [] => True
  | r :: rs => r.All p ∧ Rw.Alls p rs
end
theorem Alls_iff {p : Str → Prop} : ∀ {rs : List Rw}, Rw.Alls p rs ↔ ∀ r ∈ rs, r.All p
  | [] => by simp [Rw.Alls]
  | r :: rs => by simp [Rw.Alls, Alls_iff (rs := rs)]
theorem Vl.All_of {p : Str → Prop} {ns : List Str} {hs : List Hd} {v : Vl} (hn : ∀ x ∈ ns, p x) (hh : ∀ h ∈ hs, p h.1) (h : v.ok ns hs) : v.All p := by
  cases v with
  | num i => trivial
  | read => trivial
  | copy x => exact hn x h
  | clean x => exact hn x h
  | add x y => exact ⟨hn x h.1, hn y h.2⟩
  | call f xs => obtain ⟨h1, ps, h2, _⟩ := h; exact ⟨hh _ h2, fun x hx => hn x (h1 x hx)⟩
mutual
theorem Rw.All_of {p : Str → Prop} {ns : List Str} {hs : List Hd} (hn : ∀ x ∈ ns, p x) (hh : ∀ h ∈ hs, p h.1) : ∀ {r : Rw}, r.ok ns hs → r.All p
  | .set x v, h => ⟨hn x h.1, Vl.All_of hn hh h.2⟩
  | .send x, h => hn x h
  | .give x, h => hn x h
  | .iff x a b, h => ⟨hn x h.1, Rw.Alls_of hn hh h.2.1, Rw.Alls_of hn hh h.2.2⟩
theorem Rw.Alls_of {p : Str → Prop} {ns : List Str} {hs : List Hd} (hn : ∀ x ∈ ns, p x) (hh : ∀ h ∈ hs, p h.1) : ∀ {rs : List Rw}, Rw.oks ns hs rs → Rw.Alls p rs
  | [], _ => trivial
  | r :: rs, h => ⟨Rw.All_of hn hh h.1, Rw.Alls_of hn hh h.2⟩
end
mutual
theorem Rw.All_fair : ∀ {r : Rw}, r.All Nm → r.fair
  | .set x v, h => ⟨h.1.fair, by
      have := h.2
      cases v with
      | num i => trivial
      | read => trivial
      | copy x => exact Nm.fair this
      | clean x => exact Nm.fair this
      | add x y => exact ⟨this.1.fair, this.2.fair⟩
      | call f xs => exact ⟨this.1.fair, fun x hx => (this.2 x hx).fair⟩⟩
  | .send x, h => Nm.fair h
  | .give x, h => Nm.fair h
  | .iff x a b, h => ⟨h.1.fair, Rw.Alls_fair h.2.1, Rw.Alls_fair h.2.2⟩
theorem Rw.Alls_fair : ∀ {rs : List Rw}, Rw.Alls Nm rs → Rw.fairs rs
  | [], _ => trivial
  | r :: rs, h => ⟨Rw.All_fair h.1, Rw.Alls_fair h.2⟩
end
mutual
theorem each_All {p : Str → Prop} : ∀ (r : Rw), r.All p → ∀ q ∈ r.each, q.All p
  | .set x v, h, q, hq => by simp [Rw.each] at hq; subst hq; exact h
  | .send x, h, q, hq => by simp [Rw.each] at hq; subst hq; exact h
  | .give x, h, q, hq => by simp [Rw.each] at hq; subst hq; exact h
  | .iff x a b, h, q, hq => by
    simp only [Rw.each, List.mem_cons, List.mem_append] at hq
    rcases hq with rfl | hq | hq
    · exact h
    · exact eachs_All a h.2.1 q hq
    · exact eachs_All b h.2.2 q hq
theorem eachs_All {p : Str → Prop} : ∀ (rs : List Rw), Rw.Alls p rs → ∀ q ∈ Rw.eachs rs, q.All p
  | [], _, q, hq => by simp [Rw.eachs] at hq
  | r :: rs, h, q, hq => by
    simp only [Rw.eachs, List.mem_append] at hq
    rcases hq with hq | hq
    · exact each_All r h.1 q hq
    · exact eachs_All rs h.2 q hq
end
theorem ins_All {p : Str → Prop} {r : Rw} (h : r.All p) : ∀ x ∈ r.ins, p x := by
  intro y hy
  cases r with
  | set x v =>
    simp only [Rw.ins, List.mem_append, List.mem_singleton] at hy
    rcases hy with hy | rfl
    · have h2 := h.2
      cases v with
      | num _ => simp [Vl.asked] at hy
      | read => simp [Vl.asked] at hy
      | copy z => simp [Vl.asked] at hy; subst hy; exact h2
      | clean z => simp [Vl.asked] at hy; subst hy; exact h2
      | add z w => simp [Vl.asked] at hy; rcases hy with rfl | rfl; exact h2.1; exact h2.2
      | call f xs => exact h2.2 y hy
    · exact h.1
  | iff x a b => simp [Rw.ins] at hy; subst hy; exact h.1
  | send x => simp [Rw.ins] at hy; subst hy; exact h
  | give x => simp [Rw.ins] at hy; subst hy; exact h
theorem callL_All {p : Str → Prop} {r : Rw} (h : r.All p) : ∀ c ∈ r.callL, p c.1 ∧ ∀ x ∈ c.2, p x := by
  intro c hc
  cases r with
  | set x v =>
    cases v with
    | call f xs => simp [Rw.callL] at hc; subst hc; exact h.2
    | _ => simp [Rw.callL] at hc
  | _ => simp [Rw.callL] at hc
/-! renaming of names -/
mutual
theorem All_mapN {p q : Str → Prop} {f : Str → Str} (hf : ∀ x, p x → q (f x)) : ∀ {r : Rw}, r.All p → (r.mapN f).All q
  | .set x v, h => ⟨hf x h.1, by
      have h2 := h.2
      cases v with
      | num i => trivial
      | read => trivial
      | copy x => exact hf _ h2
      | clean x => exact hf _ h2
      | add x y => exact ⟨hf _ h2.1, hf _ h2.2⟩
      | call f xs => exact ⟨hf _ h2.1, fun y hy => by obtain ⟨x, hx, rfl⟩ := List.mem_map.mp hy; exact hf _ (h2.2 x hx)⟩⟩
  | .send x, h => hf x h
  | .give x, h => hf x h
  | .iff x a b, h => ⟨hf x h.1, Alls_mapN hf h.2.1, Alls_mapN hf h.2.2⟩
theorem Alls_mapN {p q : Str → Prop} {f : Str → Str} (hf : ∀ x, p x → q (f x)) : ∀ {rs : List Rw}, Rw.Alls p rs → Rw.Alls q (Rw.mapsN f rs)
  | [], _ => trivial
  | r :: rs, h => ⟨All_mapN hf h.1, Alls_mapN hf h.2⟩
end
/-- nearly a program: all names are names, definitions by different names, small -/
structure NP (ds : List Df) : Prop where
  nd : (ds.map (·.1)).Nodup
  nm : ∀ d ∈ ds, Nm d.1 ∧ (∀ x ∈ d.2.1, Nm x) ∧ Rw.Alls Nm d.2.2
  len : ds.length ≤ 6
  dep : ∀ d ∈ ds, Rw.deps d.2.2 ≤ 4
  cnt : ∀ d ∈ ds, (Rw.eachs d.2.2).length ≤ 60
  par : ∀ d ∈ ds, d.2.1.length ≤ 4
  ins : ∀ d ∈ ds, ∀ r ∈ Rw.eachs d.2.2, r.ins.length ≤ 5
theorem Prg.np {ds : List Df} (p : Prg ds) : NP ds where
  nd := p.nd
  nm := fun d hd => by
    have hh : d.hd ∈ ds.map Df.hd := List.mem_map.mpr ⟨d, hd, rfl⟩
    obtain ⟨ns, h1, h2⟩ := p.ok d hd
    exact ⟨p.hd.nm _ hh, p.hd.pn _ hh, Rw.Alls_of h1 p.hd.nm h2⟩
  len := by have := p.hd.len; simpa using this
  dep := p.dep
  cnt := p.cnt
  par := fun d hd => p.hd.pl d.hd (List.mem_map.mpr ⟨d, hd, rfl⟩)
  ins := fun d hd r hr => by
    obtain ⟨ns, h1, h2⟩ := p.ok d hd
    exact ins_len (eachs_ok _ h2 r hr) p.hd.pl
theorem NP.names {ds : List Df} (p : NP ds) : ∀ d ∈ ds, ∀ x ∈ namesL d, Nm x := by
  intro d hd x hx
  rcases List.mem_append.mp hx with hx | hx
  · obtain ⟨r, hr, hx⟩ := List.mem_flatMap.mp hx
    exact ins_All (eachs_All _ (p.nm d hd).2.2 r hr) x hx
  · exact (p.nm d hd).2.1 x hx
theorem NP.sized {ds : List Df} (p : NP ds) : Sized ds where
  len := by have := p.len; omega
  dep := fun d hd => by have := p.dep d hd; omega
  cnt := fun d hd => by have := p.cnt d hd; omega
  ins := fun d hd r hr => by have := p.ins d hd r hr; omega
  par := fun d hd => by have := p.par d hd; omega
  nms := fun d hd x hx => by have := (p.names d hd x hx).q; omega
  own := fun d hd => by have := (p.nm d hd).1.q; omega
theorem NP.fair {ds : List Df} (p : NP ds) : ∀ d ∈ ds, d.fair := fun d hd => ⟨(p.nm d hd).1.fair, fun x hx => ((p.nm d hd).2.1 x hx).fair, Rw.Alls_fair (p.nm d hd).2.2⟩
theorem NP.sub {ds es : List Df} (p : NP ds) (h : es.Sublist ds) : NP es where
  nd := (h.map (·.1)).nodup p.nd
  nm := fun d hd => p.nm d (h.subset hd)
  len := Nat.le_trans h.length_le p.len
  dep := fun d hd => p.dep d (h.subset hd)
  cnt := fun d hd => p.cnt d (h.subset hd)
  par := fun d hd => p.par d (h.subset hd)
  ins := fun d hd => p.ins d (h.subset hd)
theorem NP.perm {ds es : List Df} (p : NP ds) (h : ds.Perm es) : NP es where
  nd := (h.map (·.1)).nodup_iff.mp p.nd
  nm := fun d hd => p.nm d (h.mem_iff.mpr hd)
  len := by rw [← h.length_eq]; exact p.len
  dep := fun d hd => p.dep d (h.mem_iff.mpr hd)
  cnt := fun d hd => p.cnt d (h.mem_iff.mpr hd)
  par := fun d hd => p.par d (h.mem_iff.mpr hd)
  ins := fun d hd => p.ins d (h.mem_iff.mpr hd)
/-- one definition with a parameter or a row less -/
theorem NP.less {a b : List Df} {d e : Df} (p : NP (a ++ d :: b)) (h1 : e.1 = d.1) (h2 : e.2.1.Sublist d.2.1) (h3 : e.2.2.Sublist d.2.2) : NP (a ++ e :: b) := by
  have mem : ∀ c ∈ a ++ e :: b, c = e ∨ c ∈ a ++ d :: b := fun c hc => by
    simp only [List.mem_append, List.mem_cons] at hc ⊢
    rcases hc with h | h | h
    · exact .inr (.inl h)
    · exact .inl h
    · exact .inr (.inr (.inr h))
  have hd : d ∈ a ++ d :: b := by simp
  have hs : (Rw.eachs e.2.2).Sublist (Rw.eachs d.2.2) := by
    have : ∀ {x y : List Rw}, x.Sublist y → (Rw.eachs x).Sublist (Rw.eachs y) := by
      intro x y h
      induction h with
      | slnil => exact .refl _
      | cons r _ ih => rw [Rw.eachs]; exact ih.trans (List.sublist_append_right _ _)
      | cons_cons r _ ih => rw [Rw.eachs, Rw.eachs]; exact (List.Sublist.refl _).append ih
    exact this h3
  have hdep : Rw.deps e.2.2 ≤ Rw.deps d.2.2 := by
    have : ∀ {x y : List Rw}, x.Sublist y → Rw.deps x ≤ Rw.deps y := by
      intro x y h
      induction h with
      | slnil => exact Nat.le_refl _
      | cons r _ ih => rw [Rw.deps]; omega
      | cons_cons r _ ih => rw [Rw.deps, Rw.deps]; omega
    exact this h3
  refine ⟨?_, ?_, ?_, ?_, ?_, ?_, ?_⟩
  · have := p.nd
    simpa [h1] using this
  · intro c hc
    rcases mem c hc with rfl | hc
    · have := p.nm d hd
      exact ⟨by rw [h1]; exact this.1, fun x hx => this.2.1 x (h2.subset hx), Alls_iff.mpr fun r hr => Alls_iff.mp this.2.2 r (h3.subset hr)⟩
    · exact p.nm c hc
  · have := p.len
    simpa using this
  · intro c hc
    rcases mem c hc with rfl | hc
    · have := p.dep d hd; omega
    · exact p.dep c hc
  · intro c hc
    rcases mem c hc with rfl | hc
    · have := p.cnt d hd; have := hs.length_le; omega
    · exact p.cnt c hc
  · intro c hc
    rcases mem c hc with rfl | hc
    · have := p.par d hd; have := h2.length_le; omega
    · exact p.par c hc
  · intro c hc
    rcases mem c hc with rfl | hc
    · exact fun r hr => p.ins d hd r (hs.subset hr)
    · exact p.ins c hc
theorem nodup_map_on {α β : Type} {f : α → β} : ∀ {l : List α}, (∀ x ∈ l, ∀ y ∈ l, f x = f y → x = y) → l.Nodup → (l.map f).Nodup
  | [], _, _ => by simp
  | a :: l, h, nd => by
    have nd' := List.nodup_cons.mp nd
    rw [List.map_cons, List.nodup_cons]
    refine ⟨fun z => ?_, nodup_map_on (fun x hx y hy => h x (by simp [hx]) y (by simp [hy])) nd'.2⟩
    obtain ⟨b, hb, e⟩ := List.mem_map.mp z
    have := h b (by simp [hb]) a (by simp) e
    subst this
    exact nd'.1 hb
theorem Rw.dep_pos (r : Rw) : 1 ≤ r.dep := by cases r <;> simp [Rw.dep] <;> omega
theorem rows_sub : ∀ (rs : List Rw) (r : Rw), r ∈ rs → r.dep ≤ Rw.deps rs ∧ r.each.length ≤ (Rw.eachs rs).length ∧ ∀ q ∈ r.each, q ∈ Rw.eachs rs
  | [], r, h => by simp at h
  | s :: rs, r, h => by
    rcases List.mem_cons.mp h with rfl | h
    · simp only [Rw.deps, Rw.eachs, List.length_append, List.mem_append]
      exact ⟨by omega, by omega, fun q hq => .inl hq⟩
    · obtain ⟨h1, h2, h3⟩ := rows_sub rs r h
      simp only [Rw.deps, Rw.eachs, List.length_append, List.mem_append]
      exact ⟨by omega, by omega, fun q hq => .inr (h3 q hq)⟩
theorem cut_drop {xs : List PV} (k : Nat) : cutP xs (some (k : Int)) none = xs.drop k := by
  unfold cutP
  rw [HT.sIx_nat, HT.sIx_none]
  rcases Nat.le_total k xs.length with h | h
  · rw [Nat.min_eq_left h, List.take_of_length_le (by simp)]
  · rw [Nat.min_eq_right h, List.drop_of_length_le (Nat.le_refl _), List.drop_of_length_le h]; simp
end PL
/-! PLZ: o == u, o != u, o in [u] of an own class with its own ==. -/
namespace PL
open PySem PySem.Spec PyProof.Rows L2
section
variable {prog : Program} {w : World} {A : Around} {E : Value → Shared → Prop} {s : Shared} {K : PySem.W.Frag} {x C L f : Addr} {ox : Obj} {od : Option Obj} {b tb : Value} {h₀ : Heap} {m : Str → Option Value}
theorem ne_entry {Q : Fin → Shared → Prop} (hu : A.units < cLine) (X : K.In s.heap) (I : PySem.W.InstAt s.heap x ox C od) (hs : PySem.W.findIn K (.ref C) "__eq__" = some (some (.ref f))) (hf : PySem.W.isFn K (.ref f) = true)
    (h : wpAny (model prog w) A (call (.ref f) [.ref x, b]) (fun v s' => ∃ c, v = .bool c ∧ Q (.done (.ret (.bool (!c)))) s') E s) : wpAny (model prog w) A (Builtin.«object.__ne__» ⟨[.ref x, b], []⟩) Q E s := by
  unfold Builtin.«object.__ne__»
  repeat (first
    | with_reducible refine wpAny_cRoomFor hu ?_
    | (refine wpAny_bind (m := callSpecialIfBound? (.ref x) (Str.ofString "__eq__") [b])
        (PySem.W.ifBound_K X I hs hf (wpAny_mono h (fun r s' hr => by
          obtain ⟨c, rfl, hq⟩ := hr
          repeat (first | exact hq | exact wpAny_pure hq | exact wpAny_truthy_bool hq | (refine wpAny_bind (m := truthy (.bool _)) (wpAny_truthy_bool ?_)) | wp_step)) fun _ _ e => e)))
    | wp_step)
theorem ifBound_ne {M : Model} {args : List Value} {Q : Option Value → Shared → Prop} (X : K.In s.heap) (I : PySem.W.InstAt s.heap x ox C od) (hs : PySem.W.findIn K (.ref C) "__ne__" = some (some (.builtin "object.__ne__")))
    (h : wpAny M A (call (.builtin "object.__ne__") (.ref x :: args)) (fun v => Q (some v)) E s) : wpAny M A (callSpecialIfBound? (.ref x) "__ne__" args) Q E s := by
  simp only [callSpecialIfBound?, bindSpecialIfBound?]
  refine wpAny_holding (wpAny_bind (wpAny_bind (wpAny_bind (I.type.here ((PySem.W.looks_findIn X hs).here ?_)))))
  refine wpAny_bind (wpAny_askSetting (wpAny_ite ?_))
  have fin : wpAny M A (call (.builtin "object.__ne__") ([.ref x] ++ args) >>= fun v => pure (some v)) Q E s := wpAny_bind (wpAny_mono h (fun v s' h' => wpAny_pure h') fun _ _ h' => h')
  split
  · exact wpAny_bind (wpAny_of_eq (F.cmp_object.ne.bind _) (wpAny_pure (by exact fin)))
  · exact wpAny_tryCatch (wpAny_bind (wpAny_of_eq (F.cmp_object.ne.bind _) (wpAny_pure (by exact fin))))
theorem ne_K {Q : Value → Shared → Prop} (hu : A.units + 1 < cLine) (F0 : Fr h₀ L s.heap m) (X₀ : K.In h₀) (I : PySem.W.InstAt s.heap x ox C od) (hb : PySem.W.Looks (model prog w) s.heap (typeOf b) tb) (hn : PySem.W.notFirst K C tb = true)
    (hm : PySem.W.mroIn K C (.type "object") = some true) (hne : PySem.W.findIn K (.ref C) "__ne__" = some (some (.builtin "object.__ne__"))) (hs : PySem.W.findIn K (.ref C) "__eq__" = some (some (.ref f))) (hf : PySem.W.isFn K (.ref f) = true)
    (h : wpAny (model prog w) A.in1 (call (.ref f) [.ref x, b]) (fun v s' => ∃ c, v = .bool c ∧ Q (.bool (!c)) s') E s) : wpAny (model prog w) A (richCompare .NotEq (.ref x) b) Q E s := by
  have X := X₀.keeps F0.keep
  have one : wpAny (model prog w) A (tryCompare (.ref x) "__ne__" b) (fun r s' => ∃ v, r = some v ∧ Q v s') E s := by
    unfold tryCompare
    refine wpAny_bind (ifBound_ne X I hne (wpAny_call (codeAny_call_builtin F.cmp_object.ne.plain F.cmpEntry_ne (PySem.W.check_slot F.cmpKind_ne F.cmpSplit_ne (I.type.andThen (PySem.W.looks_mroIn X hm)) (F.cmpArgs_ne _ _)
      (ne_entry (A := A.in1) hu X I hs hf (wpAny_mono h (fun v s' hv => ?_) fun _ _ e => e))))))
    obtain ⟨c, rfl, hq⟩ := hv
    first
      | exact ⟨c, rfl, wpAny_pure ⟨_, rfl, hq⟩⟩
      | exact ⟨c, rfl, wpAny_pure (wpAny_pure ⟨_, rfl, hq⟩)⟩
  unfold richCompare
  simp only [oneThing_ref]
  refine wpAny_holding (wpAny_bind (wpAny_cRoomFor (Nat.lt_of_succ_lt hu) ?_))
  refine wpAny_bind (I.type.here (wpAny_bind (hb.here ?_)))
  split
  · rename_i q
    have e : PySem.W.subIn K tb (.ref C) = some false := by
      rcases Bool.or_eq_true_iff.mp hn with e | e
      · rw [beq_iff_eq.mp e] at q; simp at q
      · exact beq_iff_eq.mp e
    refine wpAny_bind ((PySem.W.looks_subIn X e).here ?_)
    simp only [Bool.false_eq_true, if_false]
    refine wpAny_bind (wpAny_mono one (fun r s' z => ?_) fun _ _ e => e)
    obtain ⟨v, rfl, hq⟩ := z
    exact wpAny_pure hq
  · refine wpAny_bind (wpAny_pure ?_)
    simp only [Bool.false_eq_true, if_false]
    refine wpAny_bind (wpAny_mono one (fun r s' z => ?_) fun _ _ e => e)
    obtain ⟨v, rfl, hq⟩ := z
    exact wpAny_pure hq
end

abbrev noX : XK := fun _ _ _ => False
section
variable {X : Cx} {W : WX} {a b : Expr} {ma mb : EM PV} {pos : Pos} {C : Str} {F : FM} {Ca fa : Addr} {fd : FuncData} {ps : List Str} {k : Nat}
/-- the own == of the instances at x and y -/
def rOwnX (X : Cx) (Ca : Addr) (neg : Bool) (F : FM) : R2 := fun x y H Q => ∃ a dx fs b dy gs, x = .ref a ∧ y = .ref b ∧ H a = some (.ins Ca dx fs) ∧ H b = some (.ins Ca dy gs) ∧
  spD X.K X.mg 2 F [x, y] H (fun z H' => ∃ c, z = .bl c ∧ Q (.bl (xor neg c)) H') noX
structure OwnC (K : PySem.W.Frag) (Ca fa : Addr) : Prop where
  eq : PySem.W.findIn K (.ref Ca) "__eq__" = some (some (.ref fa))
  fn : PySem.W.isFn K (.ref fa) = true
  ne : PySem.W.findIn K (.ref Ca) "__ne__" = some (some (.builtin "object.__ne__"))
  ob : PySem.W.mroIn K Ca (.type "object") = some true
  nf : PySem.W.notFirst K Ca (.ref Ca) = true
theorem own_run (G : FnOk X.prog X.w X.K X.mg X.base (L2.CX X.prog X.w) k fa fd ps (spD X.K X.mg 2 F)) (hb : Binds X.K fd ps []) {A : Around} {pins : List (Addr × Obj)} {σ : L2.St} {H : Hp} {s : Shared} {x y : Addr} {Q : VK}
    (hr : Room k A) (e0 : Env0 X.prog X.w X.K X.mg X.base A X.stack s H) (I : Inv X pins σ H s) (h : spD X.K X.mg 2 F [.ref x, .ref y] H Q noX) :
    wpAny (model X.prog X.w) A (call (.ref fa) [.ref x, .ref y]) (EP X pins σ Q) X.xe s := by
  have hl := G.len _ _ _ _ h
  refine wpAny_call (codeAny_mono (G.run A X.stack s H ⟨[.ref x, .ref y], []⟩ [.ref x, .ref y] [.ref x, .ref y] Q noX hr e0 (by
    have := hb s [.ref x, .ref y] I.kIn (by simpa using hl)
    simpa using this) (.cons rfl (.cons rfl .nil)) h) fun r s' hq => ?_)
  cases r with
  | error e =>
    obtain ⟨_, _, _, _, _, _, _, _, _, _, _, _, h⟩ := (show L2.CX X.prog X.w X.stack H s noX e s' from hq)
    exact h.elim
  | ok fl =>
    cases fl with
    | ret w => exact I.after hq
    | next => exact False.elim hq
    | brk => exact False.elim hq
    | cont => exact False.elim hq
theorem own_eq_rc (O : OwnC X.K Ca fa) (G : FnOk X.prog X.w X.K X.mg X.base (L2.CX X.prog X.w) k fa fd ps (spD X.K X.mg 2 F)) (hb : Binds X.K fd ps []) {A : Around} {pins : List (Addr × Obj)} {σ : L2.St} {H : Hp} {s : Shared} {x y dx dy : Addr} {fs gs : List (Str × V)} {Q : VK}
    (hr : Room k A) (e0 : Env0 X.prog X.w X.K X.mg X.base A X.stack s H) (I : Inv X pins σ H s) (hx : H x = some (.ins Ca dx fs)) (hy : H y = some (.ins Ca dy gs)) (h : spD X.K X.mg 2 F [.ref x, .ref y] H (fun z H' => ∃ c, z = .bl c ∧ Q (.bl c) H') noX) :
    wpAny (model X.prog X.w) A (richCompare .Eq (.ref x) (.ref y)) (fun v s' => ∃ c, v = .bool c ∧ EP X pins σ Q (.bool c) s') X.xe s := by
  obtain ⟨mA, J, _⟩ := ins_get I.hok hx
  obtain ⟨od, J, _⟩ := J.look
  obtain ⟨mB, J', _⟩ := ins_get I.hok hy
  obtain ⟨od', J', _⟩ := J'.look
  obtain ⟨m, hF⟩ := I.fr
  refine PySem.W.cmp_K (op := .Eq) (tb := .ref Ca) hr.units0 hF I.ok.mod.kin J J'.type O.nf O.eq O.fn ?_
  refine wpAny_mono (own_run G hb hr e0 I h) (fun v s' z => ?_) fun _ _ e => e
  obtain ⟨z', H', I', rz, c, ez, q⟩ := z
  subst ez
  cases (show v = Value.bool c from rz)
  exact ⟨c, rfl, .bl c, H', I', rfl, q⟩
theorem op_eqOwn (O : OwnC X.K Ca fa) (G : FnOk X.prog X.w X.K X.mg X.base (L2.CX X.prog X.w) k fa fd ps (spD X.K X.mg 2 F)) (hb : Binds X.K fd ps []) (hr : Room k X.A) : OpR X (compareOp .Eq) (rOwnX X Ca false F) := by
  intro pins s σ H x y v u Q I rx ry h
  obtain ⟨a, dx, fs, b, dy, gs, rfl, rfl, ha, hb', q⟩ := h
  cases (show v = Value.ref a from rx)
  cases (show u = Value.ref b from ry)
  show wpAny (model X.prog X.w) X.A (richCompare .Eq (.ref a) (.ref b)) (EP X pins σ Q) X.xe s
  refine wpAny_mono (own_eq_rc O G hb hr I.env0 I ha hb' (Q := Q) ?_) (fun v s' ⟨c, e, z⟩ => by subst e; exact z) fun _ _ e => e
  obtain ⟨ι, S, ps', r, rl, hn, wpx⟩ := q
  exact ⟨ι, S, ps', r, rl, hn, wp_mono wpx (fun v S' k ι' H' x e r' q' => by
    obtain ⟨c, e2, z⟩ := k ι' H' x e r' q'
    exact ⟨c, e2, by simpa using z⟩) fun _ _ _ k => k⟩
theorem op_neOwn (O : OwnC X.K Ca fa) (G : FnOk X.prog X.w X.K X.mg X.base (L2.CX X.prog X.w) k fa fd ps (spD X.K X.mg 2 F)) (hb : Binds X.K fd ps []) (hr : Room (k + 1) X.A) : OpR X (compareOp .NotEq) (rOwnX X Ca true F) := by
  intro pins s σ H x y v u Q I rx ry h
  obtain ⟨a, dx, fs, b, dy, gs, rfl, rfl, ha, hb', q⟩ := h
  cases (show v = Value.ref a from rx)
  cases (show u = Value.ref b from ry)
  show wpAny (model X.prog X.w) X.A (richCompare .NotEq (.ref a) (.ref b)) (EP X pins σ Q) X.xe s
  obtain ⟨mA, J, _⟩ := ins_get I.hok ha
  obtain ⟨od, J, _⟩ := J.look
  obtain ⟨mB, J', _⟩ := ins_get I.hok hb'
  obtain ⟨od', J', _⟩ := J'.look
  obtain ⟨m, hF⟩ := I.fr
  refine ne_K (tb := .ref Ca) hr.in1.units0 hF I.ok.mod.kin J J'.type O.nf O.ob O.ne O.eq O.fn ?_
  refine wpAny_mono (own_run G hb hr.in1 I.env0.in1 I q) (fun v s' z => ?_) fun _ _ e => e
  obtain ⟨z', H', I', rz, c, ez, q⟩ := z
  subst ez
  cases (show v = Value.bool c from rz)
  exact ⟨c, rfl, .bl _, H', I', rfl, by simpa using q⟩
end
/-! ### t[::-1] -/
section
open HT
variable {prog : Program} {w : World} {A : Around} {E : Value → Shared → Prop} {s : Shared}
theorem fm_congr {α β : Type} {f g : α → Option β} : ∀ {l : List α}, (∀ x ∈ l, f x = g x) → l.filterMap f = l.filterMap g
  | [], _ => rfl
  | a :: l, h => by
    rw [List.filterMap_cons, List.filterMap_cons, h a (by simp), fm_congr fun x hx => h x (by simp [hx])]
theorem adjust_rev (n : Nat) : Builtin.Slice.sliceAdjust none none (-1) (n : Int) = ((n : Int) - 1, -1) := by
  unfold Builtin.Slice.sliceAdjust
  simp
theorem places_rev (n : Nat) : Builtin.Slice.slicePlaces ((n : Int) - 1) (-1) (-1) = n := by
  unfold Builtin.Slice.slicePlaces
  have h1 : ¬ ((-1 : Int) > 0) := by omega
  simp only [h1, if_false]
  split
  · rw [show (- -1 : Int) = 1 by decide, Int.ediv_one]; omega
  · simp; omega
theorem sliceApplied_rev {sl : Addr} {vl vu vs : Value} {n : Nat} {Q : Int × Int × Nat → Shared → Prop} (hs : s.heap.IsSliceOf sl vl vu vs) (pl : IsPart vl none) (pu : IsPart vu none) (ps : IsPart vs (some (-1)))
    (h : Q ((n : Int) - 1, -1, n) s) : wpAny (model prog w) A (Builtin.Slice.sliceApplied (.ref sl) (pure (n : Int))) Q E s := by
  obtain ⟨os, hos, hcs, hds⟩ := id hs
  unfold Builtin.Slice.sliceApplied Builtin.Slice.sliceFields
  refine wpAny_bind (wpAny_bind (wpAny_field hos hds (x := vl) rfl (wpAny_bind (wpAny_field hos hds (x := vu) rfl (wpAny_bind (wpAny_field hos hds (x := vs) rfl (wpAny_pure ?_)))))))
  refine wpAny_bind (slicePart_ ps ?_)
  show wpAny _ _ (if ((-1 : Int) == 0) = true then _ else _) _ _ s
  rw [if_neg (by decide)]
  refine wpAny_bind (slicePart_ pl (wpAny_bind (slicePart_ pu (wpAny_bind (wpAny_pure ?_)))))
  show wpAny _ _ (match Builtin.Slice.sliceAdjust none none (-1) (n : Int) with | (lo, hi) => pure (lo, (-1 : Int), Builtin.Slice.slicePlaces lo hi (-1))) _ _ s
  rw [adjust_rev n]
  show wpAny _ _ (pure ((n : Int) - 1, (-1 : Int), Builtin.Slice.slicePlaces ((n : Int) - 1) (-1) (-1))) _ _ s
  rw [places_rev]
  exact wpAny_pure h
theorem pick_rev (xs : Array Value) : ((List.range xs.size).filterMap fun (m : Nat) => xs[(((xs.size : Int) - 1) + (m : Int) * (-1)).toNat]?).toArray = xs.toList.reverse.toArray := by
  have e : ((List.range xs.size).filterMap fun (m : Nat) => xs[(((xs.size : Int) - 1) + (m : Int) * (-1)).toNat]?) = ((List.range xs.size).map fun k => xs.size - 1 - k).filterMap (xs[·]?) := by
    rw [List.filterMap_map]
    refine fm_congr fun m hm => ?_
    have hm' := List.mem_range.mp hm
    show _ = xs[xs.size - 1 - m]?
    congr 1
    omega
  rw [e, PySem.W.krv_range, List.filterMap_reverse, PySem.W.krv_all]
theorem getItem_tuple_rev {t sl : Addr} {items : Array Value} {vl vu vs : Value} {Q : Value → Shared → Prop} (ht : IsTup s.heap t items) (hs : s.heap.IsSliceOf sl vl vu vs) (pl : IsPart vl none) (pu : IsPart vu none) (ps : IsPart vs (some (-1)))
    (h : Q (.ref s.heap.objs.size) { s with heap := s.heap.push { cls := .type "tuple", data := .seq items.toList.reverse.toArray } })
    (hsz : items.size ≤ sizeLine) : wpAny (model prog w) A (getItem (.ref t) (.ref sl)) Q E s := by
  have htake : sizeOk (.seq items.toList.reverse.toArray) := by
    show items.toList.reverse.toArray.size ≤ sizeLine
    simpa using hsz
  obtain ⟨os, hos, hcs, hds⟩ := id hs
  have hTs : s.TypeIs (.ref sl) "slice" := ⟨os, hos, hcs⟩
  unfold getItem
  try with_reducible refine wpAny_holding ?_
  first | refine wpAny_bind (wpAny_pure ?_) | skip
  refine wpAny_bind (wpAny_sequenceKey ht.typeIs (by decide) ?_)
  refine wpAny_bind (wpAny_callSpecial?_slot (name := Str.ofString "__getitem__") ht.typeIs PyProof.Rows.slot_tuple_getitem
    (wpAny_call_entry PyProof.Rows.slot_tuple_getitem ht.typeIs entry_tuple_getitem ?_ (args_tuple_getitem _ _)))
  show wpAny _ _ (Builtin.Tuple.tupleItemsOf (.ref t) >>= _) _ _ s
  refine wpAny_bind (tupleItemsOf_ ht ?_)
  refine wpAny_bind (wpAny_typeOf hTs ?_)
  rw [if_pos (by decide)]
  refine wpAny_bind (sliceApplied_rev hs pl pu ps ?_)
  have hno : ¬ ((((items.size : Int) - 1) == 0 && (-1 : Int) == 1 && items.size == items.size) = true) := by simp
  show wpAny _ _ (if (((items.size : Int) - 1) == 0 && (-1 : Int) == 1 && items.size == items.size) = true then _ else _) _ _ s
  rw [if_neg hno, pick_rev]
  first
    | exact wpAny_bind (m := Builtin.Tuple.tupleExact _) (wpAny_newObj_type (wpAny_pure ⟨_, rfl, wpAny_pure h⟩) htake)
    | exact wpAny_bind (m := Builtin.Tuple.tupleExact _) (wpAny_newObj_type (wpAny_bind (wpAny_pure (wpAny_pure ⟨_, rfl, wpAny_pure h⟩))) htake)
    | exact wpAny_bind (wpAny_bind (m := Builtin.Tuple.tupleExact _) (wpAny_newObj_type (wpAny_pure (wpAny_pure ⟨_, rfl, wpAny_pure h⟩)) htake))
    | exact wpAny_bind (wpAny_bind (m := Builtin.Tuple.tupleExact _) (wpAny_newObj_type (wpAny_pure ⟨_, rfl, wpAny_pure h⟩) htake))
end
section
variable {X : Cx} {W : WX} {e : Expr} {ma : EM PV} {pos : Pos}
def tRevA (K : PySem.W.Frag) (te : TE) : TE := fun σ H Q => te σ H fun x H1 => ∃ a xs, x = .ref a ∧ ((SqL K H1 a xs ∧ ∀ p, H1 p = none → Q (.ref p) (upd H1 p (.lst xs.reverse))) ∨ (SqT K H1 a xs ∧ ∀ p, H1 p = none → PLz.NewT H1 p xs.reverse (Q (.ref p))))
theorem pe_revA {te : TE} {k : Nat} {p1 p2 p3 : Pos} (he : PE X e te) : PE X (.Subscript e (.Slice none none (some (.UnaryOp .USub (.Constant (.int 1) k p1) p2)) p3) pos) (tRevA X.K te) := by
  refine ⟨fun pins s σ H Q I h => ?_⟩
  refine Subscript_ (thn (he.run pins s σ H _ I h) fun v s1 ⟨x, H1, I1, r1, q1⟩ => ?_)
  obtain ⟨a, xs, ex, q⟩ := q1
  subst ex
  cases r1
  have hst : PO X (some (.UnaryOp .USub (.Constant (.int 1) k p1) p2)) (tPart (tUn (rU fun i => .int (-i)) (tC (.int 1)))) := po_some (pe_un un_neg pe_int)
  refine wpAny_Slice (thn (po_none.run pins s1 σ H1 (fun o H2 => o = none ∧ H2 = H1) I1 ⟨rfl, rfl⟩) fun vl s2 ⟨l, H2, I2, pl, el, e2⟩ => ?_)
  subst el e2
  refine thn (po_none.run pins s2 σ H2 (fun o H3 => o = none ∧ H3 = H2) I2 ⟨rfl, rfl⟩) fun vu s3 ⟨u, H3, I3, pu, eu, e3⟩ => ?_
  subst eu e3
  refine thn (hst.run pins s3 σ H3 (fun o H4 => o = some (-1) ∧ H4 = H3) I3 ⟨1, rfl, -1, rfl, rfl, rfl⟩) fun vs s4 ⟨o, H4, I4, ps, eo, e4⟩ => ?_
  subst eo e4
  have I5 : Inv X pins σ H4 { s4 with heap := s4.heap.push { cls := .type "slice", data := .fields #[vl, vu, vs] } } := I4.kept (t' := s4.toks) fun b ob q => Heap.get?_push_of_some _ q
  show wpAny (model X.prog X.w) X.A (subscriptTail e (.Slice none none (some (.UnaryOp .USub (.Constant (.int 1) k p1) p2)) p3) (.ref a) (.ref s4.heap.objs.size)) (EP X pins σ Q) X.xe { s4 with heap := s4.heap.push { cls := .type "slice", data := .fields #[vl, vu, vs] } }
  rcases q with ⟨hx, q⟩ | ⟨hx, q⟩
  · obtain ⟨its, r, ht, hz⟩ := I5.list hx
    have hlen := r.length
    refine tail_any (ops := [.ref a, .ref s4.heap.objs.size]) ht.isList.typeIs (PySem.slot_list_getitem.lookup) ?_ (by with_unfolding_all rfl)
    refine wpAny_getItem_list_slice ht.isList (Heap.IsSliceOf.new _ vl vu vs) pl pu ps (by decide) ?_ (by rw [List.size_toArray]; omega)
    rw [PySem.W.krv_pick]
    refine ⟨.ref _, _, I5.laid (t' := s4.toks) (o := .lst xs.reverse) (fun b ob q => Heap.get?_push_of_some _ q) (Nat.le_refl _) ?_, rfl, q _ (I5.hok.fresh (Nat.le_refl _))⟩
    exact ⟨by rw [List.length_reverse]; exact hz, _, 0, r.reverse, Heap.get?_push_size _ rfl⟩
  · obtain ⟨its, r, ht, hz⟩ := I5.tuple hx
    have hlen := r.length
    refine tail_any (ops := [.ref a, .ref s4.heap.objs.size]) ht.typeIs (PyProof.Rows.slot_tuple_getitem.lookup) ?_ (by with_unfolding_all rfl)
    refine getItem_tuple_rev ht (Heap.IsSliceOf.new _ vl vu vs) pl pu ps ?_ (by rw [List.size_toArray]; omega)
    refine ⟨.ref _, _, I5.laid (t' := s4.toks) (o := .frz { cls := .type "tuple", data := .seq its.toArray.toList.reverse.toArray } (.tup xs.reverse)) (fun b ob q => Heap.get?_push_of_some _ q) (Nat.le_refl _) ?_, rfl, q _ (I5.hok.fresh (Nat.le_refl _)) _ rfl⟩
    exact ⟨Heap.get?_push_size _ rfl, by rw [List.length_reverse]; exact hz, _, r.reverse, ⟨_, Heap.get?_push_size _ rfl, rfl, 0, rfl⟩⟩
def revAP (p : PV) (S : Sto) : Option (PV × Sto) := match p with
  | .tup xs => some (.tup xs.reverse, S)
  | .fls xs => some (.loc S.length, S ++ [.lst xs.reverse])
  | .loc l => match S[l]? with | some (.lst xs) => some (.loc S.length, S ++ [.lst xs.reverse]) | _ => none
  | _ => none
theorem re_revA {k : Nat} {p1 p2 p3 : Pos} (he : RE X W e ma) : RE X W (.Subscript e (.Slice none none (some (.UnaryOp .USub (.Constant (.int 1) k p1) p2)) p3) pos) (unM revAP ma) := by
  refine ⟨pe_weak (pe_revA he.pe) fun σ H Q h => ?_⟩
  obtain ⟨ι, τ, S, r, ρ, pk⟩ := h
  refine ⟨ι, τ, S, r, ρ, pk.next.mono ?_⟩
  rintro x H1 ⟨p, ι1, S1, e1, r1, q1, pk1⟩
  obtain ⟨v, S', hf, k⟩ := pk_lift pk1
  unfold revAP at hf
  split at hf
  · cases hf
    obtain ⟨a, vs, rfl, h1, h2⟩ := q1
    refine ⟨a, vs, rfl, .inr ⟨h1.seq, fun p hp o ho => ?_⟩⟩
    obtain ⟨E, r4⟩ := r1.tup (ho := .frz o (.tup vs.reverse)) hp
    exact k _ _ _ E r4 ⟨p, _, rfl, .inl ⟨o, upd_same, ho⟩, h2.rev.up E⟩
  · cases hf
    obtain ⟨a, vs, rfl, h1, h2⟩ := q1
    refine ⟨a, vs, rfl, .inl ⟨h1.seq, fun p hp => ?_⟩⟩
    obtain ⟨E, r4, q4⟩ := r1.new_lst hp h2.rev
    exact k _ _ _ E r4 q4
  · split at hf
    · rename_i xs eS
      cases hf
      obtain ⟨a, rfl, h1⟩ := q1
      obtain ⟨vs, h2, h3⟩ := r1.obj _ a _ h1 eS
      refine ⟨a, vs, rfl, .inl ⟨.of h2, fun p hp => ?_⟩⟩
      obtain ⟨E, r4, q4⟩ := r1.new_lst hp h3.rev
      exact k _ _ _ E r4 q4
    · cases hf
  · cases hf
end
section
variable {X : Cx} {W : WX} {a b : Expr} {ma mb : EM PV} {pos : Pos} {C : Str} {F : FM} {Ca fa : Addr} {fd : FuncData} {ps : List Str} {k : Nat}
def ownO (neg : Bool) : PV → Sto → Out PV := fun v S => match v with | .bl c => .ok (.bl (xor neg c)) S | _ => .bad
def ownC (C : Str) (neg : Bool) (F : FM) (p q : PV) (S : Sto) : Out PV := if (isIns C "" p S && isIns C "" q S) = true then bnd (noEr (F [p, q] S)) (ownO neg) else .bad
def ownEqM (C : Str) (neg : Bool) (F : FM) (ma mb : EM PV) : EM PV := fun τ S => bnd (ma τ S) fun p S1 => bnd (mb τ S1) fun q S2 => ownC C neg F p q S2
theorem ownC_read {neg : Bool} (hm : X.mg C = some (.ref Ca)) {ι : List Addr} {H : Hp} {S : Sto} {p q : PV} {x y : V} {σ : L2.St} {Q : VK} (rs : RSt X.K X.mg ι H S) (rp : Rp X.K ι H p x) (rq : Rp X.K ι H q y) (h : Pk X W (rV X) σ Q ι H (ownC C neg F p q S)) :
    rOwnX X Ca neg F x y H Q := by
  unfold ownC at h
  split at h
  · rename_i hi
    rw [Bool.and_eq_true] at hi
    obtain ⟨ax, dx, fs, rfl, h1, _⟩ := isIns_rp hm rs rp hi.1
    obtain ⟨ay, dy, gs, rfl, h2, _⟩ := isIns_rp hm rs rq hi.2
    refine ⟨ax, dx, fs, ay, dy, gs, rfl, rfl, h1, h2, ι, S, [p, q], rs, ⟨_, _, rfl, rp, _, _, rfl, rq, rfl⟩, rfl, ?_⟩
    cases hF : F [p, q] S with
    | bad => rw [hF] at h; exact h.elim
    | er c p' S' => rw [hF] at h; exact h.elim
    | ok v S' =>
      rw [hF] at h
      simp only [noEr_ok, bnd_ok] at h
      show ∀ ι' H' x, Ext ι H ι' H' → RSt X.K X.mg ι' H' S' → Rp X.K ι' H' v x → _
      intro ι' H' z e' r' q'
      cases v with
      | bl c => exact ⟨c, q', h ι' H' _ e' r' rfl⟩
      | _ => exact h.elim
  · exact h.elim
theorem own_read {neg : Bool} (hm : X.mg C = some (.ref Ca)) (σ : L2.St) (H : Hp) (Q : VK) (h : gE X W (rV X) (ownEqM C neg F ma mb) σ H Q) : tOp (rOwnX X Ca neg F) (gE X W (rV X) ma) (gE X W (rV X) mb) σ H Q := by
  obtain ⟨ι, τ, S, r, ρ, pk⟩ := h
  refine ⟨ι, τ, S, r, ρ, pk.next.mono ?_⟩
  rintro x H1 ⟨p, ι1, S1, e1, r1, q1, pk1⟩
  refine ⟨ι1, τ, S1, r1, ρ.up e1, pk1.next.mono ?_⟩
  rintro y H2 ⟨q, ι2, S2, e2, r2, q2, pk2⟩
  exact ownC_read hm r2 (q1.up e2) q2 pk2
theorem re_eqOwn (hm : X.mg C = some (.ref Ca)) (O : OwnC X.K Ca fa) (G : FnOk X.prog X.w X.K X.mg X.base (L2.CX X.prog X.w) k fa fd ps (spD X.K X.mg 2 F)) (hb : Binds X.K fd ps []) (hr : Room k X.A) (ha : RE X W a ma) (hb' : RE X W b mb) (hmk : behindInMarks .Eq b = false := by first | exact nomark _ | rfl) : RE X W (.Compare a [.Eq] [b] pos) (ownEqM C false F ma mb) :=
  ⟨pe_weak (pe_cmpR (op_eqOwn O G hb hr) ha.pe hb'.pe hmk) (own_read hm)⟩
theorem rt_eqOwn (hm : X.mg C = some (.ref Ca)) (O : OwnC X.K Ca fa) (G : FnOk X.prog X.w X.K X.mg X.base (L2.CX X.prog X.w) k fa fd ps (spD X.K X.mg 2 F)) (hb : Binds X.K fd ps []) (hr : Room k X.A) (ha : RE X W a ma) (hb' : RE X W b mb) (hmk : behindInMarks .Eq b = false := by first | exact nomark _ | rfl) : RT X W (.Compare a [.Eq] [b] pos) (blM (ownEqM C false F ma mb)) :=
  ⟨pt_weak (pt_cmpR (op_eqOwn O G hb hr) ha.pe hb'.pe hmk) fun σ H Q h => own_read hm σ H _ (bl_read σ H Q h)⟩
theorem re_neOwn (hm : X.mg C = some (.ref Ca)) (O : OwnC X.K Ca fa) (G : FnOk X.prog X.w X.K X.mg X.base (L2.CX X.prog X.w) k fa fd ps (spD X.K X.mg 2 F)) (hb : Binds X.K fd ps []) (hr : Room (k + 1) X.A) (ha : RE X W a ma) (hb' : RE X W b mb) (hmk : behindInMarks .NotEq b = false := by first | exact nomark _ | rfl) : RE X W (.Compare a [.NotEq] [b] pos) (ownEqM C true F ma mb) :=
  ⟨pe_weak (pe_cmpR (op_neOwn O G hb hr) ha.pe hb'.pe hmk) (own_read hm)⟩
theorem rt_neOwn (hm : X.mg C = some (.ref Ca)) (O : OwnC X.K Ca fa) (G : FnOk X.prog X.w X.K X.mg X.base (L2.CX X.prog X.w) k fa fd ps (spD X.K X.mg 2 F)) (hb : Binds X.K fd ps []) (hr : Room (k + 1) X.A) (ha : RE X W a ma) (hb' : RE X W b mb) (hmk : behindInMarks .NotEq b = false := by first | exact nomark _ | rfl) : RT X W (.Compare a [.NotEq] [b] pos) (blM (ownEqM C true F ma mb)) :=
  ⟨pt_weak (pt_cmpR (op_neOwn O G hb hr) ha.pe hb'.pe hmk) fun σ H Q h => own_read hm σ H _ (bl_read σ H Q h)⟩
end
/-! ### o in [u] -/
section
open AutoSeq1 (wpAny_loadPart')
open MeetsSeq MeetsSeq2 MeetsSeq3 SeqRoads2
variable {prog : Program} {w : World} {A : Around} {E : Value → Shared → Prop} {s : Shared} {l : Addr} {u v : Value}
theorem contains_end {R : Result → Shared → Prop} {n i : Nat} {items : Array Value} (hi0 : items[i]? = none) (hl : s.heap.get? l = some { cls := .type "list", data := .seq items n }) (h : R (.ok (.ret (.bool false))) s) :
    wpAny (model prog w) A.in1 (Builtin.«list.__contains__.loop» ⟨[.ref l, v, rawInt i], []⟩) (GQ.FinOf prog w A R) (fun e s' => R (.error e) s') s := by
  obtain ⟨hp, g, d, tk, os⟩ := s
  wp_walk using wpAny_loadPart' hl
  have hi : items[((i : Nat) : Int).toNat]? = none := by simpa using hi0
  rw [hi]
  wp_walk
  exact h
theorem contains_step {R : Result → Shared → Prop} {n i : Nat} {items : Array Value} (hi0 : items[i]? = some u) (hl : s.heap.get? l = some { cls := .type "list", data := .seq items n })
    (h : wpAny (model prog w) A.in1 (eqBool u v) (fun r s' => (∃ (n' : Nat) (its : Array Value), its[i + 1]? = none ∧ s'.heap.get? l = some { cls := .type "list", data := .seq its n' }) ∧ R (.ok (.ret (.bool r))) s') (fun e s' => R (.error e) s') s) :
    wpAny (model prog w) A.in1 (Builtin.«list.__contains__.loop» ⟨[.ref l, v, rawInt i], []⟩) (GQ.FinOf prog w A R) (fun e s' => R (.error e) s') s := by
  obtain ⟨hp, g, d, tk, os⟩ := s
  wp_walk using wpAny_loadPart' hl
  have hi : items[((i : Nat) : Int).toNat]? = some u := by simpa using hi0
  rw [hi]
  refine wpAny_bind (wpAny_mono h (fun r s2 q => ?_) fun _ _ x => x)
  obtain ⟨⟨n', its, hn, h2⟩, q⟩ := q
  cases r with
  | true =>
    obtain ⟨hp2, g2, d2, tk2, os2⟩ := s2
    wp_walk
    exact q
  | false =>
    have hrec := contains_end (A := A) (prog := prog) (w := w) (R := R) (v := v) hn h2 q
    obtain ⟨hp2, g2, d2, tk2, os2⟩ := s2
    have hc : ((i : Int) + 1) = ((i + 1 : Nat) : Int) := by push_cast; rfl
    wp_walk
    rw [hc]
    exact ⟨plainId_quiet plain_contains_loop _, codeAny_builtin entry_contains_loop (by
      rw [Around.under_plainId plain_contains_loop _]
      exact hrec)⟩
theorem contains_one {Q : Bool → Shared → Prop} {n : Nat} (hl : s.heap.get? l = some { cls := .type "list", data := .seq #[u] n })
    (h : wpAny (model prog w) A.in1 (eqBool u v) (fun r s' => (∃ n' u', s'.heap.get? l = some { cls := .type "list", data := .seq #[u'] n' }) ∧ Q r s') E s) :
    wpAny (model prog w) A (compareOp .In v (.ref l)) (fun r s' => ∃ c, r = .bool c ∧ Q c s') E s := by
  refine In_slot ⟨_, hl, rfl⟩ F.slot_list_contains (GQ.call_here F.slot_list_contains ⟨_, hl, rfl⟩ F.entry_list_contains (F.args_list_contains_2 _ _) ?_)
  have hs := contains_step (A := A) (prog := prog) (w := w) (i := 0) (items := #[u]) (v := v) (R := wants (fun r s' => wpAny (model prog w) A (truthy r) (fun b s'' => ∃ c, Value.bool b = Value.bool c ∧ Q c s'') E s') E) (by rfl) hl
    (wpAny_mono h (fun r s' q => by
      obtain ⟨⟨n', u', e⟩, q⟩ := q
      exact ⟨⟨n', #[u'], by rfl, e⟩, wpAny_truthy_bool ⟨r, rfl, q⟩⟩) fun _ _ x => x)
  obtain ⟨hp, g, d, tk, os⟩ := s
  wp_walk using wpAny_loadPart' hl
  refine ⟨plainId_quiet plain_contains_loop _, codeAny_builtin entry_contains_loop ?_⟩
  rw [Around.under_plainId plain_contains_loop _]
  exact hs
end
section
variable {X : Cx} {W : WX} {a b : Expr} {ma mb : EM PV} {pos : Pos} {C : Str} {F : FM} {Ca fa : Addr} {fd : FuncData} {ps : List Str} {k : Nat}
def rInOwnX (X : Cx) (Ca : Addr) (F : FM) : R2 := fun x y H Q => ∃ a dx fs l b dy gs, x = .ref a ∧ y = .ref l ∧ H l = some (.lst [.ref b]) ∧ H a = some (.ins Ca dx fs) ∧ H b = some (.ins Ca dy gs) ∧
  (a = b → Q (.bl true) H) ∧ (a ≠ b → spD X.K X.mg 2 F [.ref b, .ref a] H (fun z H' => ∃ c, z = .bl c ∧ (∃ u, H' l = some (.lst [u])) ∧ Q (.bl c) H') noX)
theorem op_inOwn (O : OwnC X.K Ca fa) (G : FnOk X.prog X.w X.K X.mg X.base (L2.CX X.prog X.w) k fa fd ps (spD X.K X.mg 2 F)) (hb : Binds X.K fd ps []) (hr : Room (k + 1) X.A) : OpR X (compareOp .In) (rInOwnX X Ca F) := by
  intro pins s σ H x y v u Q I rx ry h
  obtain ⟨a, dx, fs, l, b, dy, gs, rfl, rfl, hl, ha, hb', q1, q2⟩ := h
  cases (show v = Value.ref a from rx)
  cases (show u = Value.ref l from ry)
  obtain ⟨z, its, n, r, e⟩ := I.lstM hl
  cases r with
  | cons r1 r2 =>
    cases r2
    cases r1
    refine wpAny_mono (contains_one (Q := fun c s' => EP X pins σ Q (.bool c) s') e.2 ?_) (fun r s' q => by obtain ⟨c, rfl, q⟩ := q; exact q) fun _ _ x => x
    by_cases hab : a = b
    · subst hab
      exact SeqAt.EqAt.same (A := X.A.in1) (s := s) (.ref a) X.prog X.w X.xe _ ⟨⟨_, _, e.2⟩, .bl true, H, I, rfl, q1 rfl⟩
    · have q := q2 hab
      refine GQ.eqBool_refG (fun e => hab e.symm) (wpAny_mono (own_eq_rc O G hb hr.in1 I.env0.in1 I hb' ha (Q := fun z H' => (∃ u, H' l = some (.lst [u])) ∧ Q z H') q) (fun v s' q => ?_) fun _ _ x => x)
      obtain ⟨c, rfl, z, H', I', rz, ⟨u, hu⟩, qz⟩ := q
      refine ⟨c, rfl, ?_, z, H', I', rz, qz⟩
      obtain ⟨z2, its2, n2, r2, e2⟩ := I'.lstM hu
      cases r2 with
      | cons r3 r4 =>
        cases r4
        exact ⟨_, _, e2.2⟩
def inOwnO (l : Nat) : PV → Sto → Out PV := fun v S => match v with | .bl c => (match S[l]? with | some (.lst [_]) => .ok (.bl c) S | _ => .bad) | _ => .bad
def inOwnC (C : Str) (F : FM) (p y : PV) (S : Sto) : Out PV := match p, y with
  | .loc i, .loc l => (match S[l]? with
    | some (.lst [.loc j]) => if (isIns C "" (.loc i) S && isIns C "" (.loc j) S) = true then (if i = j then .ok (.bl true) S else bnd (noEr (F [.loc j, .loc i] S)) (inOwnO l)) else .bad
    | _ => .bad)
  | _, _ => .bad
def inOwnM (C : Str) (F : FM) (ma mb : EM PV) : EM PV := fun τ S => bnd (ma τ S) fun p S1 => bnd (mb τ S1) fun q S2 => inOwnC C F p q S2
theorem inOwnC_read (hm : X.mg C = some (.ref Ca)) {ι : List Addr} {H : Hp} {S : Sto} {p q : PV} {x y : V} {σ : L2.St} {Q : VK} (rs : RSt X.K X.mg ι H S) (rp : Rp X.K ι H p x) (rq : Rp X.K ι H q y) (h : Pk X W (rV X) σ Q ι H (inOwnC C F p q S)) :
    rInOwnX X Ca F x y H Q := by
  unfold inOwnC at h
  split at h
  · rename_i i l
    split at h
    · rename_i j eS
      split at h
      · rename_i hi
        rw [Bool.and_eq_true] at hi
        obtain ⟨al, rfl, hl⟩ := rq
        obtain ⟨vs, h2, h3⟩ := rs.obj _ al _ hl eS
        obtain ⟨vj, r0, rfl, hj, rfl⟩ := h3
        obtain ⟨ax, dx, fs, rfl, k1, _⟩ := isIns_rp hm rs rp hi.1
        obtain ⟨ay, dy, gs, rfl, k2, _⟩ := isIns_rp hm rs hj hi.2
        refine ⟨ax, dx, fs, al, ay, dy, gs, rfl, rfl, h2, k1, k2, fun e => ?_, fun e => ?_⟩
        · subst e
          obtain ⟨a1, e1, g1⟩ := rp
          obtain ⟨a2, e2, g2⟩ := hj
          cases e1; cases e2
          have hij : i = j := by
            have hil : i < ι.length := (List.getElem?_eq_some_iff.mp g1).1
            exact (List.getElem?_inj hil rs.nd).mp (by rw [g1, g2])
          rw [if_pos hij] at h
          exact h _ _ _ .refl rs rfl
        · have hij : i ≠ j := fun hij => by
            subst hij
            obtain ⟨a1, e1, g1⟩ := rp
            obtain ⟨a2, e2, g2⟩ := hj
            cases e1; cases e2
            rw [g1] at g2
            exact e (Option.some.inj g2)
          rw [if_neg hij] at h
          refine ⟨ι, S, [.loc j, .loc i], rs, ⟨_, _, rfl, hj, _, _, rfl, rp, rfl⟩, rfl, ?_⟩
          cases hF : F [.loc j, .loc i] S with
          | bad => rw [hF] at h; exact h.elim
          | er c p' S' => rw [hF] at h; exact h.elim
          | ok v S' =>
            rw [hF] at h
            simp only [noEr_ok, bnd_ok] at h
            show ∀ ι' H' x, Ext ι H ι' H' → RSt X.K X.mg ι' H' S' → Rp X.K ι' H' v x → _
            intro ι' H' z e' r' q'
            unfold inOwnO at h
            split at h
            · rename_i c
              split at h
              rotate_left
              · exact h.elim
              rename_i u eS'
              obtain ⟨al', e3, g3⟩ := (show ∃ a', V.ref al = .ref a' ∧ ι'[l]? = some a' from (show Rp X.K ι H (.loc l) (.ref al) from ⟨al, rfl, hl⟩).up e')
              cases e3
              obtain ⟨vs', h5, h6⟩ := r'.obj _ al _ g3 eS'
              obtain ⟨u', r0', rfl, _, rfl⟩ := h6
              exact ⟨c, q', ⟨u', h5⟩, h ι' H' _ e' r' rfl⟩
            · exact h.elim
      · exact h.elim
    · exact h.elim
  · exact h.elim
theorem in_read (hm : X.mg C = some (.ref Ca)) (σ : L2.St) (H : Hp) (Q : VK) (h : gE X W (rV X) (inOwnM C F ma mb) σ H Q) : tOp (rInOwnX X Ca F) (gE X W (rV X) ma) (gE X W (rV X) mb) σ H Q := by
  obtain ⟨ι, τ, S, r, ρ, pk⟩ := h
  refine ⟨ι, τ, S, r, ρ, pk.next.mono ?_⟩
  rintro x H1 ⟨p, ι1, S1, e1, r1, q1, pk1⟩
  refine ⟨ι1, τ, S1, r1, ρ.up e1, pk1.next.mono ?_⟩
  rintro y H2 ⟨q, ι2, S2, e2, r2, q2, pk2⟩
  exact inOwnC_read hm r2 (q1.up e2) q2 pk2
theorem re_inOwn (hm : X.mg C = some (.ref Ca)) (O : OwnC X.K Ca fa) (G : FnOk X.prog X.w X.K X.mg X.base (L2.CX X.prog X.w) k fa fd ps (spD X.K X.mg 2 F)) (hb : Binds X.K fd ps []) (hr : Room (k + 1) X.A) (ha : RE X W a ma) (hb' : RE X W b mb) (hmk : behindInMarks .In b = false := by rfl) : RE X W (.Compare a [.In] [b] pos) (inOwnM C F ma mb) :=
  ⟨pe_weak (pe_cmpR (op_inOwn O G hb hr) ha.pe hb'.pe hmk) (in_read hm)⟩
end
end PL
/-! PLZE: reasoning about own comparisons and reversed parts. -/
namespace PL
open PySem PySem.Spec PyProof.Rows L2
section
variable {P : PV → Sto → Prop} {R : Str → PV → Sto → Prop} {S : Sto} {xs : List PV} {l : Nat} {τ : En}
@[simp] theorem e_ownO (neg c : Bool) (S : Sto) : ownO neg (.bl c) S = .ok (.bl (xor neg c)) S := rfl
@[simp] theorem e_ownC (C : Str) (neg : Bool) (F : FM) (p q : PV) (S : Sto) : ownC C neg F p q S = if (isIns C "" p S && isIns C "" q S) = true then bnd (noEr (F [p, q] S)) (ownO neg) else .bad := rfl
def ownE2 (C : Str) (neg : Bool) (F : FM) (p : PV) : PV → Sto → Out PV := fun q S => ownC C neg F p q S
def ownE1 (C : Str) (neg : Bool) (F : FM) (mb : EM PV) (τ : En) : PV → Sto → Out PV := fun p S => bnd (mb τ S) fun q S2 => ownC C neg F p q S2
@[simp] theorem e_ownE2 (C : Str) (neg : Bool) (F : FM) (p q : PV) (S : Sto) : ownE2 C neg F p q S = ownC C neg F p q S := rfl
@[simp] theorem e_ownE1 (C : Str) (neg : Bool) (F : FM) (mb : EM PV) (τ : En) (p : PV) (S : Sto) : ownE1 C neg F mb τ p S = bnd (mb τ S) (ownE2 C neg F p) := rfl
@[simp] theorem e_ownEqM (C : Str) (neg : Bool) (F : FM) (ma mb : EM PV) (τ : En) (S : Sto) : ownEqM C neg F ma mb τ S = bnd (ma τ S) (ownE1 C neg F mb τ) := rfl
@[simp] theorem e_inOwnO (l : Nat) (c : Bool) (S : Sto) : inOwnO l (.bl c) S = match S[l]? with | some (.lst [_]) => .ok (.bl c) S | _ => .bad := rfl
def inE2 (C : Str) (F : FM) (p : PV) : PV → Sto → Out PV := fun q S => inOwnC C F p q S
def inE1 (C : Str) (F : FM) (mb : EM PV) (τ : En) : PV → Sto → Out PV := fun p S => bnd (mb τ S) fun q S2 => inOwnC C F p q S2
@[simp] theorem e_inE2 (C : Str) (F : FM) (i l : Nat) (S : Sto) : inE2 C F (.loc i) (.loc l) S = match S[l]? with
    | some (.lst [.loc j]) => if (isIns C "" (.loc i) S && isIns C "" (.loc j) S) = true then (if i = j then .ok (.bl true) S else bnd (noEr (F [.loc j, .loc i] S)) (inOwnO l)) else .bad
    | _ => .bad := rfl
@[simp] theorem e_inE1 (C : Str) (F : FM) (mb : EM PV) (τ : En) (p : PV) (S : Sto) : inE1 C F mb τ p S = bnd (mb τ S) (inE2 C F p) := rfl
@[simp] theorem e_inOwnM (C : Str) (F : FM) (ma mb : EM PV) (τ : En) (S : Sto) : inOwnM C F ma mb τ S = bnd (ma τ S) (inE1 C F mb τ) := rfl
@[simp] theorem revAP_tup (xs : List PV) : revAP (.tup xs) S = some (.tup xs.reverse, S) := rfl
theorem revA_wp (h1 : S[l]? = some (.lst xs)) (h : ∀ n S', S'[n]? = some (.lst xs.reverse) → Keep [] S S' → S.length ≤ n → P (.loc n) S') : wp (lift (revAP (.loc l) S)) P R := by
  unfold revAP
  simp only [h1, lift_some, wp_ok]
  exact alloc_wp h
end
theorem inItems_ints (x : Int) (ys : List Int) : inItems (.int x) (ys.map PV.int) = some (decide (x ∈ ys)) := by
  unfold inItems
  rw [if_pos (by simp [flatP])]
  simp only [inV, List.map_map]
  congr 1
  induction ys with
  | nil => simp
  | cons y ys ih =>
    simp only [List.map_cons, List.any_cons, Function.comp, flatW, eqV] at ih ⊢
    rw [ih]
    by_cases h : x = y
    · subst h; simp
    · have h' : (y == x) = false := by simpa using fun z => h z.symm
      simp [h, h']
theorem inB_ints {n : Nat} {x : Int} {ys : List Int} {S : Sto} (h : S[n]? = some (.lst (ys.map PV.int))) : inB (.int x) (.loc n) S = some (decide (x ∈ ys)) := by
  unfold inB
  simp only [h]
  rw [inItems_ints]
theorem in34 {n : Nat} {x : Int} {S : Sto} (h : S[n]? = some (.lst [.int 3, .int 4])) : inB (.int x) (.loc n) S = some (decide (x = 3 ∨ x = 4)) := by
  have := inB_ints (x := x) (ys := [3, 4]) h
  simpa using this
theorem cut_mid {xs : List PV} (a b : Nat) (h : a ≤ b) (ha : a ≤ xs.length) : cutP xs (some (a : Int)) (some (b : Int)) = (xs.drop a).take (b - a) := by
  unfold cutP
  rw [HT.sIx_nat, HT.sIx_nat]
  rw [Nat.min_eq_left ha]
  by_cases hb : b ≤ xs.length
  · rw [Nat.min_eq_left hb]
  · rw [Nat.min_eq_right (by omega), List.take_of_length_le (by simp), List.take_of_length_le (by simp; omega)]
theorem swap_perm {α : Type} (xs : List α) (a : Nat) : (xs.take a ++ ((xs.drop a).take 2).reverse ++ xs.drop (a + 2)).Perm xs := by
  have h1 : xs = xs.take a ++ ((xs.drop a).take 2 ++ xs.drop (a + 2)) := by
    rw [show xs.drop (a + 2) = (xs.drop a).drop 2 by rw [List.drop_drop], List.take_append_drop, List.take_append_drop]
  conv => rhs; rw [h1]
  rw [List.append_assoc]
  exact (List.Perm.refl _).append ((List.reverse_perm _).append (.refl _))
/-! rows put otherwise -/
structure RowOk (r : Rw) : Prop where
  nm : r.All Nm
  dep : r.dep ≤ 4
  ins : ∀ q ∈ r.each, q.ins.length ≤ 5
def cntR (rs : List Rw) : Nat := (rs.map fun r => r.each.length).sum
theorem cntR_eq : ∀ rs : List Rw, (Rw.eachs rs).length = cntR rs
  | [] => rfl
  | r :: rs => by rw [Rw.eachs, List.length_append, cntR_eq rs]; simp [cntR]
theorem cntR_perm {a b : List Rw} (h : a.Perm b) : cntR a = cntR b := (h.map _).sum_nat
theorem cntR_app (a b : List Rw) : cntR (a ++ b) = cntR a + cntR b := by simp [cntR]
theorem deps_le {m : Nat} : ∀ {rs : List Rw}, (∀ r ∈ rs, r.dep ≤ m) → Rw.deps rs ≤ m
  | [], _ => Nat.zero_le _
  | r :: rs, h => by
    have h1 := h r (by simp)
    have h2 := deps_le (rs := rs) fun x hx => h x (by simp [hx])
    rw [Rw.deps]; omega
theorem mem_eachs : ∀ {rs : List Rw} {q : Rw}, q ∈ Rw.eachs rs → ∃ r ∈ rs, q ∈ r.each
  | [], q, h => by simp [Rw.eachs] at h
  | r :: rs, q, h => by
    rw [Rw.eachs, List.mem_append] at h
    rcases h with h | h
    · exact ⟨r, by simp, h⟩
    · obtain ⟨s, hs, h⟩ := mem_eachs h
      exact ⟨s, by simp [hs], h⟩
theorem NP.rowOk {ds : List Df} (p : NP ds) {d : Df} (hd : d ∈ ds) : ∀ r ∈ d.2.2, RowOk r := fun r hr => by
  obtain ⟨h1, _, h3⟩ := rows_sub d.2.2 r hr
  have := p.dep d hd
  exact ⟨Alls_iff.mp (p.nm d hd).2.2 r hr, by omega, fun q hq => p.ins d hd q (h3 q hq)⟩
theorem NP.chg {a b : List Df} {d e : Df} (p : NP (a ++ d :: b)) (h1 : e.1 = d.1) (h2 : ∀ x ∈ e.2.1, x ∈ d.2.1) (h3 : e.2.1.length ≤ d.2.1.length) (h4 : ∀ r ∈ e.2.2, RowOk r) (h5 : cntR e.2.2 ≤ cntR d.2.2) : NP (a ++ e :: b) := by
  have mem : ∀ c ∈ a ++ e :: b, c = e ∨ c ∈ a ++ d :: b := fun c hc => by
    simp only [List.mem_append, List.mem_cons] at hc ⊢
    rcases hc with h | h | h
    · exact .inr (.inl h)
    · exact .inl h
    · exact .inr (.inr (.inr h))
  have hd : d ∈ a ++ d :: b := by simp
  refine ⟨?_, ?_, ?_, ?_, ?_, ?_, ?_⟩
  · have := p.nd
    simpa [h1] using this
  · intro c hc
    rcases mem c hc with rfl | hc
    · have := p.nm d hd
      exact ⟨by rw [h1]; exact this.1, fun x hx => this.2.1 x (h2 x hx), Alls_iff.mpr fun r hr => (h4 r hr).nm⟩
    · exact p.nm c hc
  · have := p.len
    simpa using this
  · intro c hc
    rcases mem c hc with rfl | hc
    · exact deps_le fun r hr => (h4 r hr).dep
    · exact p.dep c hc
  · intro c hc
    rcases mem c hc with rfl | hc
    · have := p.cnt d hd; rw [cntR_eq] at this ⊢; omega
    · exact p.cnt c hc
  · intro c hc
    rcases mem c hc with rfl | hc
    · have := p.par d hd; omega
    · exact p.par c hc
  · intro c hc
    rcases mem c hc with rfl | hc
    · intro q hq
      obtain ⟨r, hr, hq⟩ := mem_eachs hq
      exact (h4 r hr).ins q hq
    · exact p.ins c hc
end PL
/-! PLEx: own exceptions made inside an expression, by place or by name, and what they keep. -/
namespace PLK2
open PySem PySem.HandSPX
open Sem (wp)
open Builtin
section
variable {prog : Program} {w : World} {A : Around} {E : Value → Shared → Prop} {R : Result → Shared → Prop} {h : Heap} {g : Array GenState} {d : Drawn} {t : Nat} {os : OsState}
variable {nm q : Str} {C N : Addr} {bs bm bmB : List Value} {hdct : Bool} {sn : List Str} {sub : List Value} {ab : Bool} {col : Option Bool} {dd : Option Addr} {k0 k1 k2 k3 k5 : Option Value} {B newId initId : String} {n1 : Str} {v1 : Value}
theorem new_check_kw {M : Model} (F : ExcBaseFacts B newId initId bmB) (hT : ∀ X : String, bm.contains (.type X) = bmB.contains (.type X)) {Q : Unit → Shared → Prop}
    (hC : h.get? C = some (excClassObj nm q C N bs bm hdct sn sub ab col dd k0 k1 k2 k3 k5 newId)) (hq : Q () ⟨h, g, d, t, os⟩) : wpAny M A (checkBuiltinCall newId ⟨[.ref C], [(n1, v1)]⟩) Q E ⟨h, g, d, t, os⟩ := by
  have hcont : (Value.ref C :: bm).contains (.type B) = true := by rw [List.contains_cons, hT, F.hasB, Bool.or_true]
  have hstar := F.noStar
  simp only [checkBuiltinCall, F.newKind, F.newSplit, F.newRow]
  repeat (first | refine wpAny_loadPart_at hC ?_ | (refine wpAny_isSubtype_exc hC ?_; rw [hcont]) | refine wpAny_staticBase_exc hC ?_ | refine wpAny_madeBy_exc hC ?_ | simp only [bne_self_eq_false, Bool.false_eq_true, if_false] | wp_step)
  exact hq
theorem new_make_kw (F : ExcBaseFacts B newId initId bmB) (hT : ∀ X : String, bm.contains (.type X) = bmB.contains (.type X))
    (hC : h.get? C = some (excClassObj nm q C N bs bm hdct sn sub ab col dd k0 k1 k2 k3 k5 newId))
    (hq : R (.ok (.ret (.ref (h.objs.size + 1)))) ⟨(h.push { cls := .type "tuple", data := .seq #[] }).push
      { cls := .ref C, data := .fields #[.ref h.objs.size, .none, .none, .none, .bool false, .none] }, g, d, t, os⟩) :
    codeAny (model prog w) A (.builtin newId ⟨[.ref C], [(n1, v1)]⟩) R ⟨h, g, d, t, os⟩ := by
  have hends := F.ends
  have hcB : (Value.ref C :: bm).contains (.type B) = true := by rw [List.contains_cons, hT, F.hasB, Bool.or_true]
  have hcA : (Value.ref C :: bm).contains (.type "AttributeError") = false := by rw [List.contains_cons, hT, F.noAttr]; rfl
  have hcN : (Value.ref C :: bm).contains (.type "NameError") = false := by rw [List.contains_cons, hT, F.noName]; rfl
  refine codeAny_builtinAt F.entry ?_
  unfold Builtin.«BaseException.__new__»
  refine wpAt_bind ?_
  show wpAt _ _ _ (stack >>= _) _ _ _
  refine wpAt_bind (wpAt_stack fun p below => wpAt_of_wpAny ?_)
  wp_walk
  refine wpAt_of_wpAny ?_
  rw [F.owner]
  repeat (first | with_reducible refine wpAny_madeHere_exc F.canon hC ?_ | with_reducible refine wpAny_loadPart_at hC ?_ | (with_reducible refine wpAny_isSubtype_exc hC ?_; first | rw [hcB] | rw [hcA] | rw [hcN]) | wp_step)
  show R _ _
  rw [Heap.size_push]
  exact hq
theorem type_call_kw (F : ExcBaseFacts B newId initId bmB) (hT : ∀ X : String, bm.contains (.type X) = bmB.contains (.type X)) {fI : Addr} {Q : Fin → Shared → Prop}
    (hC : h.get? C = some (excClassObj nm q C N bs bm hdct sn sub ab col dd k0 k1 k2 k3 k5 newId))
    (hi : W.Looks (model prog w) h (typeLookup (.ref C) "__init__") (some (.ref fI))) (hb : ∀ self, W.Looks (model prog w) h (bindSpecial (.ref fI) self) (.ref fI, [self]))
    (hq : codeAny (model prog w) A (.call (.ref fI) ⟨[.ref (h.objs.size + 1)], [(n1, v1)]⟩)
      (fun r s' => match r with | .ok (.ret v) => v = .none ∧ Q (.done (.ret (.ref (h.objs.size + 1)))) s' | .ok _ => False | .error e => E e s')
      ⟨(h.push (W.kdv_tup [])).push (excO C h.objs.size), g, d, t, os⟩) :
    wpAny (model prog w) A (Builtin.«type.__call__» ⟨[.ref C], [(n1, v1)]⟩) Q E ⟨h, g, d, t, os⟩ := by
  repeat (first | with_reducible refine wpAny_loadPart_at hC ?_ | with_reducible refine wpAny_madeBy_exc hC ?_ | wp_step)
  refine codeAny_call_builtin_code (Code.quiet_builtin _ F.quiet) (new_check_kw F hT hC ?_)
  refine new_make_kw F hT hC ?_
  show wpAny _ _ _ _ _ _
  have k : ∀ b o, h.get? b = some o → ((h.push (W.kdv_tup [])).push (excO C h.objs.size)).get? b = some o := fun b o e => Heap.get?_push_of_some _ (Heap.get?_push_of_some _ e)
  have hC₁ := k _ _ hC
  have hget : ((h.push (W.kdv_tup [])).push (excO C h.objs.size)).get? (h.objs.size + 1) = some (excO C h.objs.size) := by heap_get
  have hcC : (Value.ref C :: bm).contains (.ref C) = true := by simp
  have i1 := hi.keeps k
  have b1 := (hb (.ref (h.objs.size + 1))).keeps k
  unfold isInstance
  repeat (first | with_reducible refine wpAny_loadPart_at hget ?_ | (with_reducible refine wpAny_isSubtype_exc hC₁ ?_; rw [hcC]) | wp_step)
  show wpAny _ _ (typeLookup (.ref C) _) _ _ _
  refine i1.at ?_
  refine wpAny_holding (wpAny_bind (b1.at ?_))
  refine wpAny_bind (wpAny_call (codeAny_mono hq fun r s' z => ?_))
  rcases r with e | (v | _ | _ | _) <;> first | exact z | exact z.elim | skip
  obtain ⟨rfl, z⟩ := z
  first
    | exact wpAny_pure (wpAny_pure z)
    | (wp_walk; exact z)
theorem call_kw (F : ExcBaseFacts B newId initId bmB) (hT : ∀ X : String, bm.contains (.type X) = bmB.contains (.type X)) {fI : Addr}
    (hC : h.get? C = some (excClassObj nm q C N bs bm hdct sn sub ab col dd k0 k1 k2 k3 k5 newId))
    (hi : W.Looks (model prog w) h (typeLookup (.ref C) "__init__") (some (.ref fI))) (hb : ∀ self, W.Looks (model prog w) h (bindSpecial (.ref fI) self) (.ref fI, [self]))
    (hq : codeAny (model prog w) (A.under (.builtin "type.__call__" ⟨[.ref C], [(n1, v1)]⟩)) (.call (.ref fI) ⟨[.ref (h.objs.size + 1)], [(n1, v1)]⟩) (W.InitBack (h.objs.size + 1) R)
      ⟨(h.push (W.kdv_tup [])).push (excO C h.objs.size), g, d, t, os⟩) :
    codeAny (model prog w) A (.call (.ref C) ⟨[], [(n1, v1)]⟩) R ⟨h, g, d, t, os⟩ := by
  have f1 := tc_lookup
  have f2 := tc_bind (.ref C)
  have hTy : (⟨h, g, d, t, os⟩ : Shared).TypeIs (.ref C) "type" := ⟨_, hC, rfl⟩
  refine codeAny_of_tree ?_
  show wpAny _ _ (callAny (.ref C) _) _ _ _
  repeat (any_goals (first | assumption | with_reducible refine wpAny_loadPart_at hC ?_ | wp_step))
  refine ⟨rfl, ?_⟩
  refine codeAny_call_builtin_at (Code.quiet_builtin _ (by decide +kernel)) entry_typeCall (wpAny_check_type_call_sub hC (type_call_kw F hT hC hi hb ?_))
  refine codeAny_mono hq fun r s' z => ?_
  rcases r with e | (v | _ | _ | _) <;> exact z
end
end PLK2
namespace PL
open PySem PySem.Spec PyProof.Rows L2
section
variable {X : Cx} {W : WX} {e : Expr} {ma : EM PV} {p pos pos' : Pos}
/-- (an exception made).n -/
theorem pe_mkWhat {C : Addr} {t : L2.St → Hp → XK → Prop} {n : Str} (T : XfC X.K C) (hno : PySem.W.findIn X.K (.ref C) n = some none) (he : PMk X e t) (hb : attributeBase e n X.env (eval e X.env) = eval e X.env := by rfl) :
    PE X (.Attribute e n pos) (fun σ H Q => t σ H fun cls d H' => cls = .ref C ∧ ∃ (dd : Addr) (fs : List (Str × V)) (v : V), d = some dd ∧ H' dd = some (.xd fs) ∧ fs.lookup n = some v ∧ Q v H') := by
  refine ⟨fun pins s σ H Q I h => ?_⟩
  refine attr_of hb (thn (he pins s σ H _ I h) fun u s1 hh => ?_)
  obtain ⟨a, oe, vs, sI, H', cls, d, rfl, J, k, hne, ha, hz, hd, h1, na, os, ag, r, ec, dd, fs, v, ed, ea, l, q⟩ := hh
  subst ec
  subst ed
  have I' := J.kept (h' := s1.heap) (t' := s1.toks) k
  have I1 : Inv X pins σ H' s1 := ⟨I'.ok, os.trans J.os, ag, I'.base, I'.loc, I'.cell, I'.free, I'.freeC, I'.pin, I'.hok, I'.len⟩
  have hx : ObjOk X.prog X.w H' s1.heap dd (.xd fs) := I1.hok dd _ ea
  obtain ⟨mA, hns, hr⟩ := hx
  obtain ⟨od, ho, hl⟩ := lookIn_ns hns
  obtain ⟨u, hu, ru⟩ := RelO.some_of (v := v) (o := mA n) (by rw [← l]; exact hr n)
  have J1 : PySem.W.InstAt s1.heap a oe C (some od) := ⟨ha, hz.1, by unfold PySem.W.notCls; rw [hd] <;> rfl, by rw [hz.2]; exact ho⟩
  exact HandSPX.exc_get I1.kIn J1 T.ga T.gg T.exC (PySem.W.findObj_own T.hdC hno rfl (by rw [hl, hu])) (handed_of ru) ⟨v, H', I1.tok _, ru, q⟩
/-- the class called with what = .. -/
theorem pmk_oexKw {x : Str} {C fI : Addr} {k : Nat} {fd : FuncData} {kws : List Keyword} {t : TA} {g : List Value → List Value → List Value} {gV : List V → List V → List V} (T : OexC X.K C) (iC : PySem.W.findIn X.K (.ref C) "__init__" = some (some (.ref fI))) (tI : PySem.W.typeIn X.K (.ref fI) = some (.type "function"))
    (F1 : FnOk X.prog X.w X.K X.mg X.base (L2.CX X.prog X.w) k fI fd ["self", "what"] (spI X.K)) (hr : Room (k + 1) X.A) (hb : KBinds X.K fd ["self", "what"] ["what"] g gV) (hg : Gl X x) (hm : X.mg x = some (.ref C)) (hkw : PK X kws t)
    (hgV : ∀ a v, gV [a] [v] = [a, v])
    (hall : (backToKw pos (keywordEach kws X.env)).all (·.1.isSome) = true := by rfl) (hks : (backToKw pos (keywordEach kws X.env)).filterMap (·.1) = (["what"] : List Str) := by rfl)
    (hdb : (x == ("__debug__" : Str)) = false := by decide)
    (hpl : ((backTo pos (starEach [] X.env)).any (·.1) || (backToKw pos (keywordEach kws X.env)).any (·.1.isNone)) = false := by rfl) :
    PMk X (.Call (.Name x p) [] kws pos) (fun σ H Q => t σ H fun vs H1 => ∃ v, vs = [v] ∧ ∀ a, H1 a = none → spI X.K [.ref a, v] (upd H1 a (exo a C none))
      (fun v H2 => v = .non ∧ ∃ (d : Addr) (fs : List (Str × V)), H2 a = some (exo a C (some d)) ∧ H2 d = some (exd d fs) ∧ H1 d = none ∧ Q (.ref C) (some d) (upd (del H2 a) d (.xd fs))) (fun _ _ _ => False)) := by
  intro pins s σ H Q I h
  obtain ⟨nm, q, N, bs, bm, sn, sub, ab, col, dd, k0, k1, k2, k3, k5, hC, hbm⟩ := T.cls
  refine wpAny_Call_Name_kw (ld_glob I hg hm ?_ hdb)
  refine PySem.W.callWith_KW0 (h₀ := X.base) I.ok.mod.kin T.kC hall (thn (hkw.run pos pins s σ H _ I h) fun us s1 ⟨vs, H1, I1, r1, v, ev, q1⟩ => ⟨I1.kIn, ?_⟩) hpl
  subst ev
  obtain ⟨u, rfl, ru⟩ := r1.one
  rw [hks]
  show wpAny _ _ (call (.ref C) [] [("what", u)]) _ _ _
  obtain ⟨hp, g1, dr, tk, os⟩ := s1
  have hsz : hp.objs.size ≤ hp.objs.size + 1 := Nat.le_succ _
  have hn : H1 (hp.objs.size + 1) = none := I1.hok.fresh hsz
  have hq := q1 (hp.objs.size + 1) hn
  have kk : ∀ b o, hp.get? b = some o → ((hp.push (PySem.W.kdv_tup [])).push (PySem.HandSPX.excO C hp.objs.size)).get? b = some o := fun b o e => Heap.get?_push_of_some _ (Heap.get?_push_of_some _ e)
  have hget : ((hp.push (PySem.W.kdv_tup [])).push (PySem.HandSPX.excO C hp.objs.size)).get? (hp.objs.size + 1) = some (PySem.HandSPX.excO C hp.objs.size) := by heap_get
  have I2 : Inv X pins σ (upd H1 (hp.objs.size + 1) (exo (hp.objs.size + 1) C none)) ⟨(hp.push (PySem.W.kdv_tup [])).push (PySem.HandSPX.excO C hp.objs.size), g1, dr, tk, os⟩ :=
    I1.laid (t' := tk) (a := hp.objs.size + 1) (o := exo (hp.objs.size + 1) C none) (h' := (hp.push (PySem.W.kdv_tup [])).push (PySem.HandSPX.excO C hp.objs.size)) kk hsz (exo_ok hget)
  have r1' : Vals [V.ref (hp.objs.size + 1)] [Value.ref (hp.objs.size + 1)] := .cons rfl .nil
  have r2 : Vals (gV [V.ref (hp.objs.size + 1)] [v]) (g [Value.ref (hp.objs.size + 1)] [u]) := hb.rel r1' (.cons ru .nil)
  have hl : (g [Value.ref (hp.objs.size + 1)] [u]).length = (["self", "what"] : List Str).length := by
    rw [← r2.length, hgV]; rfl
  have hq' := hq
  rw [← hgV (V.ref (hp.objs.size + 1)) v] at hq'
  refine wpAny_call (PLK2.call_kw F.excBase_ValueError (fun Y => PySem.HandSPX.refsVE_contains Y bm hbm) (I1.kIn _ _ hC) (PySem.W.looks_findIn I1.kIn iC) (fun self => PySem.W.bind_fn I1.kIn self tI)
    (codeAny_mono (F1.run _ X.stack _ _ ⟨[Value.ref (hp.objs.size + 1)], [("what", u)]⟩ (g [Value.ref (hp.objs.size + 1)] [u]) _ _ (fun _ _ _ => False) (hr.make C [] [("what", u)]) (I2.env0.make C [] [("what", u)]) (hb.to _ [Value.ref (hp.objs.size + 1)] [u] I2.kIn hl) r2 hq') fun r s' hq' => ?_))
  cases r with
  | error er => exact passL pins σ _ _ er s' I2 hq'
  | ok fl =>
    cases fl with
    | ret u =>
      obtain ⟨v, H2, os2, bare2, un2, hok2, rv, ev, d, fs, ea, ed, hd1, q2⟩ := hq'
      subst ev
      obtain ⟨h2, g2, d2, t2, os'⟩ := s'
      exact ⟨rv, mk_end (raises_own T.exC T.tyC) I1 hsz kk un2 hok2 os2 bare2 ea ed hd1 q2⟩
    | next => exact False.elim hq'
    | brk => exact False.elim hq'
    | cont => exact False.elim hq'
def excWM (m : EM PV) : EM PV := fun τ S => bnd (m τ S) fun p S1 => .ok p S1
@[simp] theorem e_excWM (m : EM PV) (τ : En) (S : Sto) : excWM m τ S = m τ S := by
  unfold excWM
  cases m τ S <;> rfl
theorem exc_read {σ : L2.St} {Q : VK} {C : Addr} {x : V} {q : PV} {ι1 : List Addr} {H1 : Hp} {S1 : Sto} (ho : OexC X.K C) (na : PySem.W.findIn X.K (.ref C) "what" = some none) (r1 : RSt X.K X.mg ι1 H1 S1) (q1 : Rp X.K ι1 H1 q x) (pk1 : Pk X W (rV X) σ Q ι1 H1 (.ok q S1)) (a : Addr) (hn : H1 a = none) :
    spI X.K [.ref a, x] (upd H1 a (exo a C none)) (fun v H2 => v = .non ∧ ∃ (d : Addr) (fs : List (Str × V)), H2 a = some (exo a C (some d)) ∧ H2 d = some (exd d fs) ∧ H1 d = none ∧
      ((fun cls d H' => cls = Value.ref C ∧ ∃ (dd : Addr) (fs : List (Str × V)) (v : V), d = some dd ∧ H' dd = some (.xd fs) ∧ fs.lookup (Str.ofString "what") = some v ∧ Q v H') : XK) (.ref C) (some d) (upd (del H2 a) d (.xd fs))) (fun _ _ _ => False) := by
  refine ⟨a, C, x, rfl, ho, na, upd_same, fun dx hdx hne => ?_⟩
  have hd1 : H1 dx = none := by rw [upd_ne hne] at hdx; exact hdx
  refine ⟨rfl, dx, [("what", x)], upd_same, by rw [upd_ne hne, upd_same], hd1, ?_⟩
  rw [(del_upd hn hd1 hne).2]
  obtain ⟨E, r2⟩ := r1.tup (ho := .xd [("what", x)]) hd1
  exact ⟨rfl, dx, _, x, rfl, upd_same, by simp, pk1 _ _ _ E r2 (q1.up E)⟩
theorem re_excW {c : Str} {C fI : Addr} {fd : FuncData} {k : Nat} (T : ExT X.K X.mg c C fI) (Tx : XfC X.K C) (tI : PySem.W.typeIn X.K (.ref fI) = some (.type "function")) (F1 : FnOk X.prog X.w X.K X.mg X.base (L2.CX X.prog X.w) k fI fd ["self", "what"] (spI X.K)) (hr : Room (k + 1) X.A)
    (hb : Binds X.K fd ["self", "what"] []) (hg : Gl X c) (ha : RE X W e ma)
    (hdb : (c == ("__debug__" : Str)) = false := by decide) (he : starEach [e] X.env = (false, eval e X.env) :: starEach [] X.env := by rfl) (hpl : (backTo pos (starEach [] X.env)).any (·.1) = false := by rfl)
    (hat : attributeBase (.Call (.Name c p) [e] [] pos) "what" X.env (eval (.Call (.Name c p) [e] [] pos) X.env) = eval (.Call (.Name c p) [e] [] pos) X.env := by rfl) :
    RE X W (.Attribute (.Call (.Name c p) [e] [] pos) "what" pos') (excWM ma) := by
  refine ⟨pe_weak (pe_mkWhat Tx T.na (pmk_oex T.o T.ini tI F1 hr hb (dvs := []) .nil passL hg T.g (pa_cons ha.pe pa_nil he) hdb he hpl) hat) fun σ H Q ⟨ι, τ, S, r, ρ, pk⟩ => ?_⟩
  refine ⟨ι, τ, S, r, ρ, pk.next.mono fun x H1 ⟨q, ι1, S1, e1, r1, q1, pk1⟩ => ?_⟩
  exact ⟨by simp, fun a hn => exc_read T.o T.na r1 q1 pk1 a hn⟩
theorem re_excWKw {c : Str} {C fI : Addr} {fd : FuncData} {k : Nat} {kpos : Pos} {g : List Value → List Value → List Value} {gV : List V → List V → List V} (T : ExT X.K X.mg c C fI) (Tx : XfC X.K C) (tI : PySem.W.typeIn X.K (.ref fI) = some (.type "function")) (F1 : FnOk X.prog X.w X.K X.mg X.base (L2.CX X.prog X.w) k fI fd ["self", "what"] (spI X.K)) (hr : Room (k + 1) X.A)
    (hb : KBinds X.K fd ["self", "what"] ["what"] g gV) (hgV : ∀ a v, gV [a] [v] = [a, v]) (hg : Gl X c) (ha : RE X W e ma)
    (hall : (backToKw pos (keywordEach [⟨some "what", e, kpos⟩] X.env)).all (·.1.isSome) = true := by rfl) (hks : (backToKw pos (keywordEach [⟨some "what", e, kpos⟩] X.env)).filterMap (·.1) = (["what"] : List Str) := by rfl)
    (hdb : (c == ("__debug__" : Str)) = false := by decide)
    (hpl : ((backTo pos (starEach [] X.env)).any (·.1) || (backToKw pos (keywordEach [⟨some "what", e, kpos⟩] X.env)).any (·.1.isNone)) = false := by rfl)
    (hat : attributeBase (.Call (.Name c p) [] [⟨some "what", e, kpos⟩] pos) "what" X.env (eval (.Call (.Name c p) [] [⟨some "what", e, kpos⟩] pos) X.env) = eval (.Call (.Name c p) [] [⟨some "what", e, kpos⟩] pos) X.env := by rfl) :
    RE X W (.Attribute (.Call (.Name c p) [] [⟨some "what", e, kpos⟩] pos) "what" pos') (excWM ma) := by
  refine ⟨pe_weak (pe_mkWhat Tx T.na (pmk_oexKw T.o T.ini tI F1 hr hb hg T.g (pk_cons ha.pe pk_nil) hgV hall hks hdb hpl) hat) fun σ H Q ⟨ι, τ, S, r, ρ, pk⟩ => ?_⟩
  refine ⟨ι, τ, S, r, ρ, pk.next.mono fun x H1 ⟨q, ι1, S1, e1, r1, q1, pk1⟩ => ?_⟩
  exact ⟨x, rfl, fun a hn => exc_read T.o T.na r1 q1 pk1 a hn⟩
end
end PL
/-! PLCt: t.count(x) of flat items. -/
namespace PL
open PySem PySem.Spec PyProof.Rows L2
theorem countP_eqU {x : V} : ∀ {xs : List V} {us : List Value}, Vals xs us → xs.all flatV = true → us.countP (eqU x) = xs.countP fun y => eqV y x
  | _, _, .nil, _ => rfl
  | y :: xs, u :: us, .cons r t, f => by
    rw [List.all_cons, Bool.and_eq_true] at f
    rw [List.countP_cons, List.countP_cons, eqU_of r f.1, countP_eqU t f.2]
section
variable {X : Cx}
theorem mt_tcount : MtR X "tuple.count" (fun x xs H Q => ∃ (p : Addr) (vs : List V) (y : V), x = .ref p ∧ xs = [y] ∧ SqT X.K H p vs ∧ flatV y = true ∧ vs.all flatV = true ∧ Q (.int (vs.countP (fun z => eqV z y) : Nat)) H) := by
  intro pins s σ H x xs v us Q I rx rxs h
  obtain ⟨p, vs, y, rfl, rfl, hs, fy, fs, q⟩ := h
  cases rx
  obtain ⟨u, rfl, ru⟩ := rxs.one
  obtain ⟨its, rv, ⟨⟨cls, dd, data, sl⟩, ho, hc, n, hd⟩, hlen⟩ := I.tuple hs
  simp only at hc hd
  subst hc hd
  refine call_meets PySem.F.slot_tuple_count ⟨_, ho, rfl⟩ PySem.F.entry_tuple_count (PySem.F.args_tuple_count_2 _ _)
    (SeqAt.tuple_countAt p its.toArray n dd sl u (eqU y)) ⟨ho, fun w hw => mem_eqAt ru fy rv fs w (by simpa using hw), ?_⟩
  refine ⟨.int (vs.countP (fun z => eqV z y) : Nat), H, I.tok _, ⟨s.toks, ?_⟩, q⟩
  show Value.int ((its.toArray.toList.countP (eqU y) : Nat) : Int) s.toks = _
  rw [← countP_eqU rv fs]
end
def tcountP : OpM := fun p ps S => match p, ps with
  | .tup xs, [y] => if flatP y = true ∧ xs.all flatP = true then some (.int ((xs.countP fun z => eqV (flatW z) (flatW y) : Nat) : Int), S) else none
  | _, _ => none
theorem om_tcount {X : Cx} : MtR X "tuple.count" (gMt X tcountP) := by
  intro pins s σ H x xs v us Q I rx rxs ⟨ι, S, p, ps, w, S', rs, rp, rps, hf, k⟩
  unfold tcountP at hf
  split at hf
  · rename_i ys y
    split at hf
    · rename_i c
      cases hf
      obtain ⟨a, vs, ex, h1, h2⟩ := rp
      obtain ⟨y', rfl, h3⟩ := rpl1 rps
      obtain ⟨e1, e2⟩ := rp_flat h3 c.1
      obtain ⟨e3, e4⟩ := rpl_flat h2 c.2
      subst e1; subst e3
      refine mt_tcount pins s σ H _ _ v us Q I rx rxs ⟨a, _, _, ex, rfl, h1.seq, e2, e4, k _ _ _ .refl rs ?_⟩
      show V.int _ = V.int _
      rw [List.countP_map]
      rfl
    · cases hf
  · cases hf
/-! ### the call of a tuple's method -/
section
variable {X : Cx} {W : WX} {o e : Expr} {es : List Expr} {mo : EM PV} {mas : EM (List PV)} {apos cpos : Pos}
theorem fzT_is {pins : List (Addr × Obj)} {σ : L2.St} {H : Hp} {s : Shared} {a : Addr} {xs : List V} (I : Inv X pins σ H s) (h : FzT X.K H a xs) : s.TypeIs (.ref a) "tuple" ∧ ∃ ob, s.heap.get? a = some ob ∧ ob.dict = none := by
  rcases h with ⟨o, h, hd⟩ | ⟨o, its, n, h1, h2, hd, _⟩
  · obtain ⟨hg, _, _, _, o', h1, h2, _⟩ := (show ObjOk X.prog X.w H s.heap a (.frz o (.tup xs)) from I.hok a _ h)
    exact ⟨⟨o', h1, h2⟩, o, hg, hd⟩
  · exact ⟨⟨o, I.kIn a o h1, h2⟩, o, I.kIn a o h1, hd⟩
theorem pe_tm {id : String} {name : Str} {to : TE} {t : TA} {r : V → List V → Hp → VK → Prop} (slot : Slot "tuple" name id) (hty : typeOf (.builtin id) = pure (.type "method_descriptor")) (hm : MtR X id r) (ho : PE X o to) (ha : PA X (e :: es) t)
    (hbase : attributeBase o name X.env (eval o X.env) = eval o X.env := by rfl)
    (hfew : ((backTo cpos (starEach (e :: es) X.env)).all (fun x => !x.1) && (backToKw cpos (keywordEach [] X.env)).all (fun x => x.1.isSome)
      && decide ((e :: es).length + ([] : List Keyword).length + (if ([] : List Keyword).isEmpty then 0 else 1) < 30)) = true := by rfl)
    (hline : (apos.endLine == cpos.line) = true := by rfl) (hs : starEach (e :: es) X.env = (false, eval e X.env) :: starEach es X.env := by rfl) (hplain : (backTo cpos (starEach es X.env)).any (·.1) = false := by rfl) :
    PE X (.Call (.Attribute o name apos) (e :: es) [] cpos) (fun σ H Q => to σ H fun x H1 => (∃ a xs, x = .ref a ∧ FzT X.K H1 a xs) ∧ t σ H1 fun xs H2 => r x xs H2 Q) := by
  refine ⟨fun pins s σ H Q I h => ?_⟩
  refine wpAny_Call_method_late hbase hfew hline rfl (thn (ho.run pins s σ H _ I h) fun v s1 ⟨x, H1, I1, r1, ty, q1⟩ => ?_)
  obtain ⟨a, xs, rfl, hz⟩ := ty
  cases (show v = Value.ref a from r1)
  obtain ⟨h1, ob, h2, h3⟩ := fzT_is I1 hz
  refine ⟨"tuple", id, PySem.F.plainAttrs_tuple, slot, hty, h1, fun b e => by cases e; exact ⟨ob, h2, h3⟩, ?_⟩
  have hA := ha.run cpos pins s1 σ H1 _ I1 q1
  rw [hs] at hA ⊢
  refine Calls.callWith_builtin (by show (false || (backTo cpos (starEach es X.env)).any (·.1)) = false; rw [hplain] <;> rfl) (Calls.evalArgs_plain ?_)
  exact thn hA fun us s2 ⟨vs, H2, I2, r2, q2⟩ => hm pins s2 σ H2 (.ref a) vs _ us Q I2 rfl r2 q2
def tmM (f : OpM) (m : EM PV) (ms : EM (List PV)) : EM PV := fun τ S => bnd (m τ S) fun p S1 => match p with
  | .tup xs => bnd (ms τ S1) fun ps S2 => lift (f (.tup xs) ps S2)
  | _ => .bad
theorem re_tm {id : String} {name : Str} {f : OpM} (slot : Slot "tuple" name id) (hty : typeOf (.builtin id) = pure (.type "method_descriptor")) (hm : MtR X id (gMt X f)) (ho : RE X W o mo) (ha : RA X W (e :: es) mas)
    (hbase : attributeBase o name X.env (eval o X.env) = eval o X.env := by rfl)
    (hfew : ((backTo cpos (starEach (e :: es) X.env)).all (fun x => !x.1) && (backToKw cpos (keywordEach [] X.env)).all (fun x => x.1.isSome)
      && decide ((e :: es).length + ([] : List Keyword).length + (if ([] : List Keyword).isEmpty then 0 else 1) < 30)) = true := by rfl)
    (hline : (apos.endLine == cpos.line) = true := by rfl) (hs : starEach (e :: es) X.env = (false, eval e X.env) :: starEach es X.env := by rfl) (hplain : (backTo cpos (starEach es X.env)).any (·.1) = false := by rfl) :
    RE X W (.Call (.Attribute o name apos) (e :: es) [] cpos) (tmM f mo mas) := by
  refine ⟨pe_weak (pe_tm slot hty hm ho.pe ha.pa hbase hfew hline hs hplain) fun σ H Q h => ?_⟩
  obtain ⟨ι, τ, S, r, ρ, pk⟩ := h
  refine ⟨ι, τ, S, r, ρ, pk.next.mono ?_⟩
  rintro x H1 ⟨p, ι1, S1, e1, r1, q1, pk1⟩
  cases p with
  | tup xs =>
    have q1' := q1
    obtain ⟨a, vs, rfl, h1, h2⟩ := q1'
    refine ⟨⟨a, vs, rfl, h1⟩, ι1, τ, S1, r1, ρ.up e1, pk1.next.mono ?_⟩
    rintro ys H2 ⟨ps, ι2, S2, e2, r2, q2, pk2⟩
    obtain ⟨v, S', hf, k⟩ := pk_lift pk2
    exact ⟨ι2, S2, .tup xs, ps, v, S', r2, q1.up e2, q2, hf, k⟩
  | _ => exact pk1.elim
end
def tm2 (f : OpM) (p : PV) : List PV → Sto → Out PV := fun ps S => lift (f p ps S)
def tm1 (f : OpM) (ms : EM (List PV)) (τ : En) : PV → Sto → Out PV := fun p S1 => match p with
  | .tup xs => bnd (ms τ S1) (tm2 f (.tup xs))
  | _ => .bad
@[simp] theorem e_tm2 (f : OpM) (p : PV) (ps : List PV) (S : Sto) : tm2 f p ps S = lift (f p ps S) := rfl
@[simp] theorem e_tm1 (f : OpM) (ms : EM (List PV)) (τ : En) (xs : List PV) (S : Sto) : tm1 f ms τ (.tup xs) S = bnd (ms τ S) (tm2 f (.tup xs)) := rfl
@[simp] theorem e_tmM (f : OpM) (m : EM PV) (ms : EM (List PV)) (τ : En) (S : Sto) : tmM f m ms τ S = bnd (m τ S) (tm1 f ms τ) := rfl
end PL
/-! PLDc: dicts made of lists of pairs, keys met more than once. -/
namespace PL
open PySem PySem.Spec PyProof.Rows L2
theorem valP_put (kvs : List (Key × PV)) (k k' : Key) (v : PV) : valP (putP kvs k v) k' = if k = k' then some v else valP kvs k' := by
  by_cases hk : (kvs.any fun kv => decide (kv.1 = k)) = true
  · unfold putP
    rw [if_pos hk]
    unfold valP
    rw [List.find?_map]
    have e : ((fun kv : Key × PV => decide (kv.1 = k')) ∘ fun kv => if kv.1 = k then (kv.1, v) else kv) = fun kv => decide (kv.1 = k') := by
      funext kv
      simp only [Function.comp]
      split <;> rfl
    rw [e]
    by_cases h : k = k'
    · subst h
      rw [if_pos rfl]
      obtain ⟨x, hx, hx2⟩ := List.any_eq_true.mp hk
      cases hf : kvs.find? fun kv => decide (kv.1 = k) with
      | none => exact absurd hx2 (by simpa using List.find?_eq_none.mp hf x hx)
      | some y =>
        have hy : y.1 = k := by simpa using List.find?_some hf
        simp [hy]
    · rw [if_neg h]
      cases hf : kvs.find? fun kv => decide (kv.1 = k') with
      | none => rfl
      | some y =>
        have hy : y.1 = k' := by simpa using List.find?_some hf
        have hn : ¬ y.1 = k := fun z => h (by rw [← z, hy])
        simp [hn]
  · have hn : valP kvs k = none := by
      unfold valP
      cases hf : kvs.find? fun kv => decide (kv.1 = k) with
      | none => rfl
      | some y => exact absurd (List.any_eq_true.mpr ⟨y, List.mem_of_find?_eq_some hf, List.find?_some hf⟩) hk
    rw [putP_none hn, valP_app]
    by_cases h : k = k'
    · subst h
      rw [hn]
      simp [valP]
    · rw [if_neg h]
      have : valP [(k, v)] k' = none := by simp [valP, h]
      rw [this]
      cases valP kvs k' <;> rfl
theorem valP_merge_rev {α : Type} (f : α → Str) (g : α → PV) (x : Str) : ∀ (xs : List α) (acc : List (Key × PV)), valP (mergeP acc (xs.reverse.map fun y => ((.inr (f y) : Key), g y))) (.inr x) = ((xs.find? fun y => decide (f y = x)).map g).or (valP acc (.inr x))
  | [], acc => by simp [mergeP]
  | y :: ys, acc => by
    have e : mergeP acc ((y :: ys).reverse.map fun y => ((.inr (f y) : Key), g y)) = putP (mergeP acc (ys.reverse.map fun y => ((.inr (f y) : Key), g y))) (.inr (f y)) (g y) := by
      simp [mergeP, List.foldl_append]
    rw [e, valP_put, List.find?_cons, valP_merge_rev f g x ys acc]
    by_cases h : f y = x
    · simp [h]
    · have h1 : ¬ (Sum.inr (f y) : Key) = Sum.inr x := by simpa using h
      rw [if_neg h1]
      simp [h]
theorem fair_pl {x : Str} (h : Fair x) : Pl 0 (.str x) := h.pl 0
end PL
/-! PLSP: spoilt programs. -/
namespace PL
open PySem PySem.Spec PyProof.Rows L2
def Sm (x : Str) : Prop := Fair x ∧ x.length ≤ 9
theorem Nm.sm {x : Str} (h : Nm x) : Sm x := ⟨h.fair, by have := h.q; omega⟩
mutual
theorem Rw.All_fairs {p : Str → Prop} (hp : ∀ x, p x → Fair x) : ∀ {r : Rw}, r.All p → r.fair
  | .set x v, h => by
    refine ⟨hp x h.1, ?_⟩
    have := h.2
    cases v <;> simp only [Vl.All, Vl.fair] at this ⊢
    · exact hp _ this
    · exact ⟨hp _ this.1, hp _ this.2⟩
    · exact hp _ this
    · exact ⟨hp _ this.1, fun y hy => hp y (this.2 y hy)⟩
  | .iff x a b, h => ⟨hp x h.1, Rw.Alls_fairs hp h.2.1, Rw.Alls_fairs hp h.2.2⟩
  | .send x, h => hp x h
  | .give x, h => hp x h
theorem Rw.Alls_fairs {p : Str → Prop} (hp : ∀ x, p x → Fair x) : ∀ {rs : List Rw}, Rw.Alls p rs → Rw.fairs rs
  | [], _ => trivial
  | r :: rs, h => ⟨Rw.All_fairs hp h.1, Rw.Alls_fairs hp h.2⟩
end
mutual
theorem Rw.All_mono {p q : Str → Prop} (hp : ∀ x, p x → q x) : ∀ {r : Rw}, r.All p → r.All q
  | .set x v, h => by
    refine ⟨hp x h.1, ?_⟩
    have := h.2
    cases v <;> simp only [Vl.All] at this ⊢
    · exact hp _ this
    · exact ⟨hp _ this.1, hp _ this.2⟩
    · exact hp _ this
    · exact ⟨hp _ this.1, fun y hy => hp y (this.2 y hy)⟩
  | .iff x a b, h => ⟨hp x h.1, Rw.Alls_mono hp h.2.1, Rw.Alls_mono hp h.2.2⟩
  | .send x, h => hp x h
  | .give x, h => hp x h
theorem Rw.Alls_mono {p q : Str → Prop} (hp : ∀ x, p x → q x) : ∀ {rs : List Rw}, Rw.Alls p rs → Rw.Alls q rs
  | [], _ => trivial
  | r :: rs, h => ⟨Rw.All_mono hp h.1, Rw.Alls_mono hp h.2⟩
end
structure SP (j : Nat) (ds : List Df) : Prop where
  len : ds.length ≤ 6 + j
  nm : ∀ d ∈ ds, Sm d.1 ∧ (∀ x ∈ d.2.1, Sm x) ∧ Rw.Alls Sm d.2.2
  dep : ∀ d ∈ ds, Rw.deps d.2.2 ≤ 4
  cnt : ∀ d ∈ ds, (Rw.eachs d.2.2).length ≤ 60
  par : ∀ d ∈ ds, d.2.1.length ≤ 4
  ins : ∀ d ∈ ds, ∀ r ∈ Rw.eachs d.2.2, r.ins.length ≤ 5 + j
theorem NP.sp {ds : List Df} (p : NP ds) : SP 0 ds where
  len := p.len
  nm := fun d hd => ⟨(p.nm d hd).1.sm, fun x hx => ((p.nm d hd).2.1 x hx).sm, Rw.Alls_mono (fun _ h => h.sm) (p.nm d hd).2.2⟩
  dep := p.dep
  cnt := p.cnt
  par := p.par
  ins := p.ins
theorem SP.up {i j : Nat} {ds : List Df} (p : SP i ds) (h : i ≤ j) : SP j ds :=
  ⟨by have := p.len; omega, p.nm, p.dep, p.cnt, p.par, fun d hd r hr => by have := p.ins d hd r hr; omega⟩
theorem SP.names {j : Nat} {ds : List Df} (p : SP j ds) : ∀ d ∈ ds, ∀ x ∈ namesL d, Sm x := by
  intro d hd x hx
  rcases List.mem_append.mp hx with hx | hx
  · obtain ⟨r, hr, hx⟩ := List.mem_flatMap.mp hx
    exact ins_All (eachs_All _ (p.nm d hd).2.2 r hr) x hx
  · exact (p.nm d hd).2.1 x hx
theorem SP.fair {j : Nat} {ds : List Df} (p : SP j ds) : ∀ d ∈ ds, d.fair := fun d hd => ⟨(p.nm d hd).1.1, fun x hx => ((p.nm d hd).2.1 x hx).1, Rw.Alls_fairs (fun _ h => h.1) (p.nm d hd).2.2⟩
theorem SP.sized {j : Nat} {ds : List Df} (p : SP j ds) (hj : j ≤ 10) : Sized ds where
  len := by have := p.len; omega
  dep := fun d hd => by have := p.dep d hd; omega
  cnt := fun d hd => by have := p.cnt d hd; omega
  ins := fun d hd r hr => by have := p.ins d hd r hr; omega
  par := fun d hd => by have := p.par d hd; omega
  nms := fun d hd x hx => by have := (p.names d hd x hx).2; omega
  own := fun d hd => by have := (p.nm d hd).1.2; omega
theorem SP.pl {j : Nat} {ds : List Df} (p : SP j ds) : PlL 20 (ds.map Df.pv) := dfs_pl (m := 4) p.fair (fun d hd => p.dep d hd) (by omega)
def okB (ds : List Df) (a : Nat) (d : Df) : Bool := nmB d.1 && decide (d.1 ∉ (ds.take a).map (·.1)) && soundB (ds.map Df.hd) d
end PL
/-! PST1: set tables of any size: what the probing meets, one more put in, all laid anew. -/
namespace PLs
open PySem PySem.Spec PyProof.Rows L2
/-! ### i -> 5 i + 1 below a power of two goes through all -/
def geo : Nat → Nat
  | 0 => 0
  | n + 1 => 5 * geo n + 1
theorem geo4 : ∀ n, 4 * geo n + 1 = 5 ^ n
  | 0 => rfl
  | n + 1 => by
    have := geo4 n
    show 4 * (5 * geo n + 1) + 1 = 5 ^ (n + 1)
    rw [Nat.pow_succ, ← this]; omega
theorem geo_add (a : Nat) : ∀ b, geo (a + b) = 5 ^ b * geo a + geo b
  | 0 => by simp [geo]
  | b + 1 => by
    show 5 * geo (a + b) + 1 = 5 ^ (b + 1) * geo a + (5 * geo b + 1)
    rw [geo_add a b, Nat.pow_succ, Nat.mul_add, Nat.mul_comm (5 ^ b) 5, Nat.mul_assoc]
    omega
theorem geo_dbl (n : Nat) : geo (n + n) = 2 * (geo n * (1 + 2 * geo n)) := by
  rw [geo_add, ← geo4 n]
  generalize geo n = g
  have : (4 * g + 1) * g = 4 * (g * g) + g := by rw [Nat.add_mul, Nat.mul_assoc, Nat.one_mul]
  have h2 : g * (1 + 2 * g) = g + 2 * (g * g) := by rw [Nat.mul_add, Nat.mul_one, Nat.mul_left_comm]
  rw [this, h2]; omega
theorem geo_par : ∀ n, geo n % 2 = n % 2
  | 0 => rfl
  | n + 1 => by
    have := geo_par n
    show (5 * geo n + 1) % 2 = (n + 1) % 2
    omega
theorem odd_cop (e g : Nat) : Nat.Coprime (2 ^ e) (1 + 2 * g) := by
  refine Nat.Coprime.pow_left e ?_
  have h : (1 + 2 * g) % 2 = 1 := by omega
  unfold Nat.Coprime
  rw [Nat.gcd_rec, h]
  rfl
theorem geo_dvd : ∀ e n, 2 ^ e ∣ geo n → 2 ^ e ∣ n
  | 0, n, _ => by simp
  | e + 1, n, h => by
    have h2 : geo n % 2 = 0 := Nat.mod_eq_zero_of_dvd (Nat.dvd_trans ⟨2 ^ e, by rw [Nat.pow_succ, Nat.mul_comm]⟩ h)
    have hn : n % 2 = 0 := by rw [← geo_par]; exact h2
    obtain ⟨m, rfl⟩ : ∃ m, n = m + m := ⟨n / 2, by omega⟩
    rw [geo_dbl, Nat.pow_succ, Nat.mul_comm (2 ^ e) 2] at h
    have h3 : 2 ^ e ∣ geo m * (1 + 2 * geo m) := Nat.dvd_of_mul_dvd_mul_left (by decide) h
    have h4 := geo_dvd e m ((odd_cop e (geo m)).dvd_of_dvd_mul_right h3)
    obtain ⟨c, rfl⟩ := h4
    exact ⟨c, by rw [Nat.pow_succ, Nat.mul_assoc, Nat.mul_left_comm]; omega⟩
theorem lcg_form (m i : Nat) (hi : i ≤ m) : ∀ k, lcgI m i k = (5 ^ k * i + geo k) % (m + 1)
  | 0 => by
    show i = (5 ^ 0 * i + 0) % (m + 1)
    rw [Nat.pow_zero, Nat.one_mul, Nat.add_zero, Nat.mod_eq_of_lt (Nat.lt_succ_of_le hi)]
  | k + 1 => by
    show (lcgI m i k * 5 + 1) % (m + 1) = (5 ^ (k + 1) * i + (5 * geo k + 1)) % (m + 1)
    rw [lcg_form m i hi k, Nat.add_mod, Nat.mod_mul_mod, ← Nat.add_mod]
    congr 1
    rw [Nat.pow_succ, Nat.add_mul]
    have : 5 ^ k * i * 5 = 5 ^ k * 5 * i := by rw [Nat.mul_assoc, Nat.mul_comm i 5, ← Nat.mul_assoc]
    omega
/-- masks: a power of two less one -/
def Mk (m : Nat) : Prop := ∃ e, 3 ≤ e ∧ e ≤ 24 ∧ m + 1 = 2 ^ e
theorem lcg_inj {m i : Nat} (hm : Mk m) (hi : i ≤ m) {a d : Nat} (hd : 0 < d) (hl : d ≤ m) : lcgI m i a ≠ lcgI m i (a + d) := by
  obtain ⟨e, _, _, he⟩ := hm
  intro h
  rw [lcg_form m i hi, lcg_form m i hi] at h
  generalize hv : 5 ^ a * i + geo a = v at h
  have e1 : 5 ^ (a + d) * i + geo (a + d) = v + geo d * (1 + 2 * (2 * v)) := by
    rw [geo_add, Nat.pow_add, ← hv, ← geo4 d]
    generalize geo d = g
    generalize geo a = b
    generalize 5 ^ a = p
    have : g * (1 + 2 * (2 * (p * i + b))) = g + 4 * (g * (p * i)) + 4 * (g * b) := by
      rw [Nat.mul_add, Nat.mul_one, ← Nat.mul_assoc 2 2, Nat.mul_left_comm g, Nat.mul_add g]; omega
    rw [this]
    have h2 : p * (4 * g + 1) * i = 4 * (g * (p * i)) + p * i := by
      rw [Nat.mul_add, Nat.mul_one, Nat.add_mul, Nat.mul_assoc p (4 * g) i, Nat.mul_left_comm p (4 * g) i, Nat.mul_assoc 4 g]
    have h3 : (4 * g + 1) * b = 4 * (g * b) + b := by rw [Nat.add_mul, Nat.mul_assoc, Nat.one_mul]
    rw [h2, h3]; omega
  rw [e1] at h
  have h5 := Nat.sub_mod_eq_zero_of_mod_eq h.symm
  rw [Nat.add_sub_cancel_left] at h5
  have h6 := Nat.dvd_of_mod_eq_zero h5
  rw [he] at h6
  have h7 := geo_dvd e d ((odd_cop e (2 * v)).dvd_of_dvd_mul_right h6)
  have h8 := Nat.le_of_dvd hd h7
  omega
theorem lcg_meets {m i j : Nat} (hm : Mk m) (hi : i ≤ m) (hj : j ≤ m) : ∃ k, k ≤ m ∧ lcgI m i k = j := by
  rcases Classical.em (j ∈ (List.range (m + 1)).map (lcgI m i)) with c | c
  · obtain ⟨k, h1, h2⟩ := List.mem_map.mp c
    exact ⟨k, Nat.le_of_lt_succ (List.mem_range.mp h1), h2⟩
  · exfalso
    have nd : ((List.range (m + 1)).map (lcgI m i)).Nodup := by
      refine List.pairwise_map.mpr (List.Pairwise.imp_of_mem (fun {a b} ha hb hlt => ?_) (List.pairwise_lt_range (n := m + 1)))
      have hb' := List.mem_range.mp hb
      obtain ⟨d, rfl⟩ : ∃ d, b = a + d := ⟨b - a, by omega⟩
      exact lcg_inj hm hi (by omega) (by omega)
    have hsub := nat_nodup_len _ ((List.range (m + 1)).erase j) nd fun x hx => by
      have hne : x ≠ j := fun z => c (z ▸ hx)
      refine (List.mem_erase_of_ne hne).mpr (List.mem_range.mpr ?_)
      obtain ⟨k, _, h2⟩ := List.mem_map.mp hx
      rw [← h2, lcg_form m i hi]
      exact Nat.mod_lt _ (Nat.succ_pos _)
    rw [List.length_map, List.length_erase_of_mem (List.mem_range.mpr (Nat.lt_succ_of_le hj)), List.length_range] at hsub
    omega
/-! ### the way of a hash -/
theorem runs_meet {m : Nat} (hm : Mk m) (h : Int) {j : Nat} (hj : j ≤ m) : ∃ n, n ≤ m + 12 ∧ runI m (SetTable.bits h) n = j := by
  obtain ⟨k, h1, h2⟩ := lcg_meets hm (runI_le m (SetTable.bits h) 12) hj
  exact ⟨12 + k, by omega, (runI_tail (bits_lt h) k).trans h2⟩
theorem way_meets {m : Nat} (hm : Mk m) (h : Int) {j : Nat} (hj : j ≤ m) : ∃ k, k < 10 * SetTable.turns m ∧ way m h k = j := by
  obtain ⟨n, h1, h2⟩ := runs_meet hm h hj
  obtain ⟨k, h3, h4⟩ := run_nth m (SetTable.bits h) n
  refine ⟨k, by unfold SetTable.turns; omega, ?_⟩
  show SetTable.Probe.j _ = j
  rw [h4, ← h2]; rfl
theorem way_in (m : Nat) (h : Int) (k : Nat) : way m h k ≤ m := by
  have hb : SetTable.bits h % (m + 1) ≤ m := Nat.le_of_lt_succ (Nat.mod_lt _ (Nat.succ_pos _))
  have r := runEnd_bd hb
  have := nth_in k (runAt m (SetTable.bits h % (m + 1)) (SetTable.bits h)) (show SetTable.bits h % (m + 1) + (SetTable.runEnd m (SetTable.bits h % (m + 1)) - SetTable.bits h % (m + 1)) ≤ m by omega)
  exact Nat.le_trans (Nat.le_add_right _ _) this
/-- what stands in a table, by the hashes in the order of the places -/
structure TabG (t : SetTable) (hs : List Int) : Prop where
  ris : Ris t.place.toList
  nod : t.dummies = #[]
  siz : t.place.toList.length = hs.length
  msk : Mk t.mask
  low : ∀ x ∈ t.place.toList, x ≤ t.mask
  fnd : ∀ (i : Nat) (h : Int) (j : Nat), hs[i]? = some h → t.place.toList[i]? = some j → ∃ k, way t.mask h k = j ∧ ∀ c, c < k → way t.mask h c ∈ t.place.toList
section
variable {t : SetTable} {hs : List Int} {h : Int} {n : Nat}
/-- where the search for a hash ends at the latest -/
theorem TabG.gap (T : TabG t hs) (hl : hs.length ≤ t.mask) (h : Int) : ∃ n, n < 10 * SetTable.turns t.mask ∧ way t.mask h n ∉ t.place.toList ∧ ∀ c, c < n → way t.mask h c ∈ t.place.toList := by
  obtain ⟨j, j1, j2⟩ := st_missing t.place.toList (t.mask + 1) (by rw [T.siz]; omega)
  obtain ⟨k, k1, k2⟩ := way_meets T.msk h (Nat.le_of_lt_succ j1)
  obtain ⟨n, n1, n2, n3⟩ := st_least (p := fun c => way t.mask h c ∉ t.place.toList) k (by rw [k2]; exact j2)
  exact ⟨n, Nat.lt_of_le_of_lt n1 k1, n2, fun c hc => Classical.not_not.mp (n3 c hc)⟩
theorem TabG.ahead (T : TabG t hs) {i j : Nat} (hn : way t.mask h n ∉ t.place.toList) (hi : hs[i]? = some h) (hj : t.place.toList[i]? = some j) : ∃ c, c < n ∧ way t.mask h c = j := by
  obtain ⟨k, e, b⟩ := T.fnd i h j hi hj
  refine ⟨k, ?_, e⟩
  refine Nat.lt_of_not_le fun q => ?_
  rcases Nat.lt_or_eq_of_le q with c | c
  · exact hn (b n c)
  · rw [c, e] at hn
    exact hn (List.mem_of_getElem? hj)
/-- one more put in at its gap -/
theorem TabG.more (T : TabG t hs) (hn : way t.mask h n ∉ t.place.toList) (hb : ∀ c, c < n → way t.mask h c ∈ t.place.toList) :
    ∃ p t', t.put (way t.mask h n) = (t', p) ∧ p ≤ hs.length ∧ TabG t' (hs.take p ++ h :: hs.drop p) ∧ t'.mask = t.mask ∧ t'.led = t.led ∧ t'.plain = t.plain ∧ t'.fill = hs.length + 1 := by
  have T0 := T
  obtain ⟨r, d, z, m, l, f⟩ := T0
  have hle := way_in t.mask h n
  generalize hj : way t.mask h n = j at hn hle ⊢
  have cut := (below_cut r j).1
  generalize hp : SetTable.below t.place j = p at cut
  have cutL : p ≤ t.place.toList.length := by rw [Array.length_toList]; exact cut
  have place : (t.put j).1.place.toList = t.place.toList.take p ++ j :: t.place.toList.drop p := by rw [put_place, hp]
  have grow : ∀ x, x ∈ (t.put j).1.place.toList ↔ x = j ∨ x ∈ t.place.toList := fun x => by rw [place]; exact mem_ins
  have len : (t.put j).1.place.toList.length = hs.length + 1 := by rw [place, len_ins _ cutL, z]
  refine ⟨p, (t.put j).1, by rw [← hp]; rfl, by omega, ⟨?_, put_dm d j, by rw [len, len_ins _ (by omega)], m, fun x hx => ?_, fun i g q h1 h2 => ?_⟩, rfl, rfl, rfl, ?_⟩
  · exact ris_insert r fun e => hn (List.mem_of_getElem? (by rw [Array.getElem?_toList]; exact e))
  · rcases (grow x).mp hx with e | e
    · rw [e]; exact hle
    · exact l x e
  · show ∃ k, way t.mask g k = q ∧ ∀ c, c < k → way t.mask g c ∈ (t.put j).1.place.toList
    rw [tins_get _ (by omega)] at h1
    rw [place, tins_get _ cutL] at h2
    have old : ∀ i', hs[i']? = some g → t.place.toList[i']? = some q → ∃ k, way t.mask g k = q ∧ ∀ c, c < k → way t.mask g c ∈ (t.put j).1.place.toList := fun i' a b => by
      obtain ⟨k, k1, k2⟩ := f i' g q a b
      exact ⟨k, k1, fun c hc => (grow _).mpr (.inr (k2 c hc))⟩
    split at h1
    · rename_i c1
      rw [if_pos c1] at h2
      exact old i h1 h2
    · rename_i c1
      rw [if_neg c1] at h2
      split at h1
      · rename_i c2
        rw [if_pos c2] at h2
        cases h1; cases h2
        exact ⟨n, hj, fun c hc => (grow _).mpr (.inr (hb c hc))⟩
      · rename_i c2
        rw [if_neg c2] at h2
        exact old (i - 1) h1 h2
  · show (t.put j).1.place.size + (t.put j).1.dummies.size = _
    rw [put_dm d j, ← Array.length_toList, len]; rfl
end
/-! ### all laid anew -/
theorem slot_found {m : Nat} (hm : Mk m) (owner : Array (Option Nat)) (h : Int) {j : Nat} (hj : j ≤ m) (hf : oAt owner j = none) :
    ∃ n, SetTable.layClean.free m owner (SetTable.turns m) (SetTable.bits h % (m + 1)) (SetTable.bits h) = some (way m h n) ∧ oAt owner (way m h n) = none ∧ ∀ c, c < n → oAt owner (way m h c) ≠ none := by
  obtain ⟨r, r1, r2⟩ := runs_meet hm h hj
  generalize ho : off m (SetTable.bits h % (m + 1)) (SetTable.bits h) r = N
  have hw : way m h N = j := by
    subst ho
    show SetTable.Probe.j (nth m (runAt m (SetTable.bits h % (m + 1)) (SetTable.bits h)) (off m (SetTable.bits h % (m + 1)) (SetTable.bits h) r)) = j
    rw [nth_off, itL_run, ← r2]; rfl
  obtain ⟨n, n1, n2, n3⟩ := st_least (p := fun c => oAt owner (way m h c) = none) N (by rw [hw]; exact hf)
  refine ⟨n, free_spec m owner _ r _ _ n (by unfold SetTable.turns; omega) (by rw [ho]; exact n1) (fun c hc => ?_) (by rw [show oAt owner (nth m (runAt m (SetTable.bits h % (m + 1)) (SetTable.bits h)) n).j = none from n2]; rfl), n2, n3⟩
  have q := n3 c hc
  cases z : oAt owner (nth m (runAt m (SetTable.bits h % (m + 1)) (SetTable.bits h)) c).j with
  | none => exact absurd z q
  | some _ => rfl
theorem own_more {m : Nat} (hm : Mk m) {done : List Int} {owner : Array (Option Nat)} (W : Own m done owner) (hl : done.length ≤ m) (h : Int) :
    ∃ j, SetTable.layClean.free m owner (SetTable.turns m) (SetTable.bits h % (m + 1)) (SetTable.bits h) = some j ∧ Own m (done ++ [h]) (owner.setIfInBounds j (some done.length)) := by
  have W0 := W
  obtain ⟨sz, at', all', ps, pl, pin⟩ := W0
  obtain ⟨j0, a1, a2⟩ := st_missing ps (m + 1) (by omega)
  have free0 : oAt owner j0 = none := Classical.not_not.mp fun q => a2 (pin j0 (Nat.le_of_lt_succ a1) q)
  obtain ⟨n, b1, b2, b3⟩ := slot_found hm owner h (Nat.le_of_lt_succ a1) free0
  have le := way_in m h n
  generalize hj : way m h n = j at b1 b2 le
  refine ⟨j, b1, ?_⟩
  have hs : j < owner.size := by omega
  have here := oAt_set_self (some done.length) hs
  have there : ∀ i, i ≠ j → oAt (owner.setIfInBounds j (some done.length)) i = oAt owner i := fun i hi => oAt_set_ne _ hi
  have up : ∀ i, oAt owner i ≠ none → oAt (owner.setIfInBounds j (some done.length)) i ≠ none := fun i hi => by
    by_cases e : i = j
    · rw [e, here]; simp
    · rw [there i e]; exact hi
  refine ⟨by rw [Array.size_setIfInBounds]; exact sz, fun i k hi e => ?_, fun k hk => ?_, j :: ps, by simp [pl], fun i hi e => ?_⟩
  · by_cases c : i = j
    · rw [c, here] at e
      cases e
      exact ⟨h, n, by simp, by rw [hj, c], fun c' hc => up _ (b3 c' hc)⟩
    · rw [there i c] at e
      obtain ⟨g, K, e1, e2, e3⟩ := at' i k hi e
      exact ⟨g, K, by rw [List.getElem?_append_left (List.getElem?_eq_some_iff.mp e1).1]; exact e1, e2, fun c' hc => up _ (e3 c' hc)⟩
  · by_cases c : k < done.length
    · obtain ⟨i, i1, i2⟩ := all' k c
      exact ⟨i, i1, by rw [there i fun z => by rw [z, b2] at i2; cases i2]; exact i2⟩
    · have : k = done.length := by simp at hk; omega
      subst this
      exact ⟨j, le, here⟩
  · by_cases c : i = j
    · rw [c]; simp
    · rw [there i c] at e
      exact List.mem_cons_of_mem _ (pin i hi e)
theorem lay_fold {m : Nat} (hm : Mk m) : ∀ (rest done : List Int) (owner : Array (Option Nat)), Own m done owner → done.length + rest.length ≤ m →
    ∃ o', rest.foldl (stepF m) (some (owner, done.length)) = some (o', (done ++ rest).length) ∧ Own m (done ++ rest) o'
  | [], done, owner, W, _ => ⟨owner, by simp, by simpa using W⟩
  | h :: rest, done, owner, W, hl => by
    simp only [List.length_cons] at hl
    obtain ⟨j, e, W1⟩ := own_more hm W (by omega) h
    obtain ⟨o', e2, W2⟩ := lay_fold hm rest (done ++ [h]) _ W1 (by simp; omega)
    refine ⟨o', ?_, by simpa using W2⟩
    rw [List.foldl_cons, stepF_some e]
    simpa using e2
theorem lay_all {m : Nat} (hm : Mk m) {hs : Array Int} (hn : hs.size ≤ m) : ∃ owner, SetTable.layClean m hs = some owner ∧ Own m hs.toList owner := by
  obtain ⟨o, e, W⟩ := lay_fold hm hs.toList [] _ (Own.init m) (by simp; exact hn)
  refine ⟨o, ?_, by simpa using W⟩
  rw [layClean_eq]
  have e' : hs.toList.foldl (stepF m) (some (Array.replicate (m + 1) none, 0)) = some (o, ([] ++ hs.toList).length) := e
  rw [e']; rfl
theorem relaid_all (t : SetTable) {hs : Array Int} {wanted M : Nat} (hw : SetTable.sizeAbove wanted - 1 = M) (hM : Mk M) (hn : hs.size ≤ M) :
    ∃ t' order, t.relaid hs wanted = some (t', order) ∧ order.toList.Perm (List.range hs.size) ∧ TabG t' (order.toList.map fun i => hs.getD i 0) ∧ t'.mask = M ∧ t'.led = t.led ∧ t'.plain = t.plain := by
  obtain ⟨owner, e, W⟩ := lay_all hM hn
  have e2 : t.relaid hs wanted = some (tabOf t M owner, ((liveOf M owner).map (·.2)).toArray) := by rw [relaid_eq, hw, e]; rfl
  have rl := ris_live (fun j => owner.getD j none) (List.range (M + 1)) (by unfold Ris; exact List.pairwise_lt_range)
  have nd : ((liveOf M owner).map (·.1)).Nodup := List.Pairwise.imp (fun z => Nat.ne_of_lt z) rl.1
  have live : ∀ j k, (j, k) ∈ liveOf M owner ↔ j ≤ M ∧ oAt owner j = some k := fun j k => mem_live W.sz
  have len : (liveOf M owner).length = hs.size := by
    obtain ⟨ps, p1, p2⟩ := W.ps
    refine Nat.le_antisymm ?_ ?_
    · have := nat_nodup_len _ ps nd fun x hx => by
        obtain ⟨⟨y, k⟩, q1, q2⟩ := List.mem_map.mp hx
        cases q2
        have q := (live y k).mp q1
        exact p2 y q.1 (by rw [q.2]; simp)
      simpa [p1] using this
    · have := nat_nodup_len (List.range hs.size) ((liveOf M owner).map (·.2)) List.nodup_range fun k hk => by
        obtain ⟨j, q1, q2⟩ := W.all k (by simpa using hk)
        exact List.mem_map.mpr ⟨(j, k), (live j k).mpr ⟨q1, q2⟩, rfl⟩
      simpa using this
  refine ⟨_, _, e2, ?_, ⟨rl.1, rfl, ?_, hM, fun x hx => ?_, fun i h j h1 h2 => ?_⟩, rfl, rfl, rfl⟩
  · refine perm_range hs.size _ (by simpa using len) fun k hk => ?_
    obtain ⟨j, q1, q2⟩ := W.all k (by simpa using hk)
    exact List.mem_map.mpr ⟨(j, k), (live j k).mpr ⟨q1, q2⟩, rfl⟩
  · simp [tabOf]
  · exact Nat.le_of_lt_succ (List.mem_range.mp (rl.2 x hx))
  · have a1 : ((liveOf M owner).map fun x => hs.getD x.2 0)[i]? = some h := by simpa using h1
    have a2 : ((liveOf M owner).map (·.1))[i]? = some j := h2
    rw [List.getElem?_map] at a1 a2
    cases hq : (liveOf M owner)[i]? with
    | none => rw [hq] at a2; cases a2
    | some q =>
      obtain ⟨y, k⟩ := q
      rw [hq] at a1 a2
      cases a2
      have b := (live y k).mp (List.mem_of_getElem? hq)
      obtain ⟨g, n, c1, c2, c3⟩ := W.at_ y k b.1 b.2
      have eg : hs.getD k 0 = g := by
        rw [Array.getD_eq_getD_getElem?, ← Array.getElem?_toList, c1]; rfl
      have eh : hs.getD k 0 = h := Option.some.inj a1
      rw [eg] at eh
      subst eh
      refine ⟨n, c2, fun c hc => ?_⟩
      show way M g c ∈ (liveOf M owner).map (·.1)
      cases z : oAt owner (way M g c) with
      | none => exact absurd z (c3 c hc)
      | some k2 => exact List.mem_map.mpr ⟨(_, k2), (live _ k2).mpr ⟨way_in M g c, z⟩, rfl⟩
/-! ### sizes -/
theorem above_go (n : Nat) : ∀ f e, n < 2 ^ (e + f) → ∃ d, e ≤ d ∧ SetTable.sizeAbove.go n f (2 ^ e) = 2 ^ d ∧ n < 2 ^ d ∧ (d = e ∨ 2 ^ d ≤ 2 * n)
  | 0, e, h => ⟨e, Nat.le_refl _, rfl, h, .inl rfl⟩
  | f + 1, e, h => by
    unfold SetTable.sizeAbove.go
    by_cases c : 2 ^ e ≤ n
    · rw [if_pos c, ← Nat.pow_succ]
      obtain ⟨d, d1, d2, d3, d4⟩ := above_go n f (e + 1) (by rw [show e + 1 + f = e + (f + 1) by omega]; exact h)
      refine ⟨d, by omega, d2, d3, .inr ?_⟩
      rcases d4 with q | q
      · rw [q, Nat.pow_succ]; omega
      · exact q
    · rw [if_neg c]
      exact ⟨e, Nat.le_refl _, rfl, by omega, .inl rfl⟩
theorem above_is (n : Nat) (h : n < 2 ^ 23) : ∃ d, 3 ≤ d ∧ d ≤ 24 ∧ SetTable.sizeAbove n = 2 ^ d ∧ n < 2 ^ d := by
  obtain ⟨d, d1, d2, d3, d4⟩ := above_go n 64 3 (Nat.lt_of_lt_of_le h (Nat.pow_le_pow_right (by decide) (by decide)))
  refine ⟨d, d1, ?_, d2, d3⟩
  rcases d4 with q | q
  · omega
  · have e25 : (2 : Nat) ^ 25 = 2 * 2 ^ 24 := by decide
    have e24 : (2 : Nat) ^ 23 ≤ 2 ^ 24 := by decide
    have lt : 2 ^ d < 2 ^ 25 := by omega
    have := (Nat.pow_lt_pow_iff_right (by decide : 1 < 2)).mp lt
    omega
end PLs
set_option maxHeartbeats 2000000
/-! PST2: sets of things by a kind (tuples of ints and texts): found, put in. -/
namespace PLs
open PySem PySem.Spec PyProof.Rows L2
/-- a kind of things that sets hold -/
structure SKind (P : Program) (w : World) (K : Type) [DecidableEq K] where
  k : HeapKind P w K
  same : ∀ {h h' : Heap} {x : K} {a b : Addr} {o : Obj} {es : Array (Int × Value)} {ep : Nat} {t : SetTable}, k.is h x b → h.get? a = some o → o.data = .set es ep t → Heap.SameBut a h h' → k.is h' x b
  keep : ∀ {h h' : Heap} {x : K} {b : Addr}, k.is h x b → (∀ c o, h.get? c = some o → h'.get? c = some o) → k.is h' x b
  cls : ∀ {A : Around} {E : Value → Shared → Prop} {s : Shared} {x : K} {b : Addr} {Q : Bool → Shared → Prop}, k.is s.heap x b → Q false s → wpAny (model P w) A (ofAClassStatement 8 (.ref b)) Q E s
  byv : ∀ {A : Around} {E : Value → Shared → Prop} {s : Shared} {x : K} {b : Addr} {Q : Bool → Shared → Prop}, k.is s.heap x b → (∀ c, Q c s) → wpAny (model P w) A (hashByValue 8 (.ref b)) Q E s
  roomy : ∀ {A : Around}, A.units < cLine → k.room A
section
variable {P : Program} {w : World} {K : Type} [DecidableEq K] {S : SKind P w K} {A : Around} {E : Value → Shared → Prop} {s : Shared}
theorem unseen {x : K} {b : Addr} {Q : Bool → Shared → Prop} (hx : S.k.is s.heap x b) {ys : List Value} (hy : ∀ y ∈ ys, ∃ z c, y = Value.ref c ∧ S.k.is s.heap z c) (h : Q false s) :
    wpAny (model P w) A (searchCouldBeSeen (.ref b) ys) Q E s := by
  unfold searchCouldBeSeen
  refine wpAny_bind (wpAny_forIn_list _ (fun left r s' => s' = s ∧ r.1 = none ∧ ∀ y ∈ left, ∃ z c, y = Value.ref c ∧ S.k.is s.heap z c) _ ?turn ?over _ _ ⟨rfl, rfl, hy⟩)
  case turn =>
    rintro y left r s' ⟨e, hr, all⟩
    subst e
    obtain ⟨z, c, rfl, hc⟩ := all y (by simp)
    have more : ∀ u ∈ left, ∃ z c, u = Value.ref c ∧ S.k.is s'.heap z c := fun u hu => all u (by simp [hu])
    dsimp only
    by_cases hv : (b == c || (carriedByValue (.ref b) && carriedByValue (.ref c))) = true
    · exact wp_if_pos hv (wpAny_pure ⟨rfl, rfl, more⟩)
    · refine wp_if_neg hv ?_
      refine wpAny_bind (S.k.quiet hx ?_)
      simp only [Bool.not_true, Bool.false_eq_true, if_false]
      refine wpAny_bind (S.k.quiet hc ?_)
      simp only [Bool.not_true, Bool.false_eq_true, if_false]
      refine wpAny_bind (S.cls hx ?_)
      simp only [Bool.false_eq_true, if_false]
      refine wpAny_bind (S.cls hc ?_)
      simp only [Bool.false_eq_true, if_false]
      exact wpAny_pure ⟨rfl, rfl, more⟩
  case over =>
    rintro ⟨r1, r2⟩ s' ⟨e, hr, _⟩
    subst e
    simp only at hr
    subst hr
    exact wpAny_pure h
/-- masks that come of a fresh table -/
def Mok (m : Nat) : Prop := m = 7 ∨ m = 31 ∨ m = 127 ∨ m = 511 ∨ m = 2047 ∨ m = 8191
theorem Mok.le {m : Nat} (h : Mok m) : m ≤ 8191 := by unfold Mok at h; omega
theorem Mok.odd {m : Nat} (h : Mok m) : m % 2 = 1 := by unfold Mok at h; omega
theorem Mok.mk {m : Nat} (h : Mok m) : Mk m := by
  rcases h with e | e | e | e | e | e <;> subst e
  · exact ⟨3, by decide, by decide, by decide⟩
  · exact ⟨5, by decide, by decide, by decide⟩
  · exact ⟨7, by decide, by decide, by decide⟩
  · exact ⟨9, by decide, by decide, by decide⟩
  · exact ⟨11, by decide, by decide, by decide⟩
  · exact ⟨13, by decide, by decide, by decide⟩
def rowsS (S : SKind P w K) (L : List (Addr × K)) : List (Int × Value) := L.map fun p => (S.k.hash p.2, Value.ref p.1)
def hashS (S : SKind P w K) (L : List (Addr × K)) : List Int := L.map fun p => S.k.hash p.2
/-- a set's object, without the things themselves -/
structure SetB (S : SKind P w K) (h : Heap) (a : Addr) (L : List (Addr × K)) (es : Array (Int × Value)) (ep : Nat) (t : SetTable) : Prop where
  ob : ∃ o, h.get? a = some o ∧ o.ExactSet ∧ o.data = .set es ep t
  rows : es.toList = rowsS S L
  tab : TabG t (hashS S L)
  nd : (L.map (·.2)).Nodup
  led : w.params.followText "set-order" = true ∨ t.led = true
  msk : Mok t.mask
  room : L.length * 5 < t.mask * 3
  few : L.length ≤ 4000
variable {a : Addr} {L : List (Addr × K)} {es : Array (Int × Value)} {ep : Nat} {t : SetTable}
theorem SetB.size {h : Heap} (R : SetB S h a L es ep t) : es.size = L.length := by
  rw [← Array.length_toList, R.rows]; simp [rowsS]
theorem fits_of (hd : t.dummies = #[]) (hz : t.place.toList.length = es.size) (hl : es.size ≤ t.mask) : t.fits es.size = true := by
  have hz' : t.place.size = es.size := by rw [← Array.length_toList]; exact hz
  simp [SetTable.fits, SetTable.fill, hd, hz', hl]
theorem SetB.fits {h : Heap} (R : SetB S h a L es ep t) : t.fits es.size = true := by
  have h1 := R.room
  refine fits_of R.tab.nod ?_ ?_
  · rw [R.tab.siz, R.size]; simp [hashS]
  · rw [R.size]; omega
theorem SetB.entry {h : Heap} (R : SetB S h a L es ep t) {i : Nat} {p : Addr × K} (e : L[i]? = some p) : es[i]? = some (S.k.hash p.2, Value.ref p.1) := by
  rw [← Array.getElem?_toList, R.rows]
  simp [rowsS, e]
/-- the search from the c-th step of the way on -/
theorem find_from (R : SetB S s.heap a L es ep t) (its : ∀ p ∈ L, S.k.is s.heap p.2 p.1) {x : Addr} {k : K} (hx : S.k.is s.heap k x) (hu : A.units < cLine) {g : Int} (hg : S.k.hash k = g) {n : Nat} (hn : way t.mask g n ∉ t.place.toList) (hb : ∀ c, c < n → way t.mask g c ∈ t.place.toList)
    (hnf : n < 10 * SetTable.turns t.mask) {Q : SetFound → Shared → Prop} (hin : k ∈ L.map (·.2) → Q (.there none) s) (hout : k ∉ L.map (·.2) → Q (.free (way t.mask g n) false) s) :
    ∀ (f c : Nat) (stand : Option SetTable.Probe), stand.getD (t.probeStart g) = nth t.mask (runAt t.mask (SetTable.bits g % (t.mask + 1)) (SetTable.bits g)) c → c ≤ n → n - c < f →
      (∀ (i : Nat) p, L[i]? = some p → p.2 = k → ∃ d, c ≤ d ∧ d < n ∧ t.place.toList[i]? = some (way t.mask g d)) →
      wpAny (model P w) A (setSearchFrom a (.ref x) g true f stand) Q E s := by
  intro f
  induction f with
  | zero => intro c stand _ _ hf; exact absurd hf (Nat.not_lt_zero _)
  | succ f ih =>
    intro c stand hst hc hf hre
    have R0 := R
    obtain ⟨⟨o, ho, hex, hd⟩, rows, tab, nd, led, msk, room, few⟩ := R0
    have fit := R.fits
    rw [setSearchFrom_succ]
    refine wpAny_bind (wpAny_setState_of ho hd fit ?_)
    dsimp only
    refine wp_if_neg (by unfold SetTable.gaveWay; rw [msk.odd]; decide) ?_
    try refine wpAny_bind (wpAny_pure ?_)
    generalize hp0 : runAt t.mask (SetTable.bits g % (t.mask + 1)) (SetTable.bits g) = p0 at hst
    have wayd : ∀ d, way t.mask g d = (nth t.mask p0 d).j := fun d => by rw [← hp0]
    have nodm : ∀ d, (nth t.mask p0 d).dummy = none := by
      intro d
      induction d with
      | zero => rw [← hp0]; rfl
      | succ d q =>
        rw [nth_succ]
        unfold adv
        split <;> exact q
    have shift : ∀ q, nth t.mask (nth t.mask p0 c) q = nth t.mask p0 (c + q) := fun q => (nth_add t.mask c p0 q).symm
    have look := go_spec t tab.ris tab.nod (fun i => (es[i]?.map (·.1)).getD 0) g (10 * SetTable.turns t.mask) (n - c) _ (nodm c) (by omega)
      (fun q hq => by rw [shift, ← wayd]; exact hb _ (by omega)) (by rw [shift, ← wayd, Nat.add_sub_cancel' hc]; exact hn)
    have hashAt : ∀ (i : Nat) p, L[i]? = some p → (es[i]?.map (·.1)).getD 0 = S.k.hash p.2 := fun i p e => by rw [R.entry e]; rfl
    rcases look with ⟨q, i, hq, hi, hh, before, found⟩ | ⟨before, found⟩
    · rw [shift] at found hi
      rw [← wayd] at found hi
      rw [shift] at found
      have found' : t.probe (fun i => (es[i]?.map (·.1)).getD 0) g (stand.getD (t.probeStart g)) = some (.candidate (way t.mask g (c + q)) i (nth t.mask p0 (c + (q + 1)))) := by rw [hst]; exact found
      rw [found']
      dsimp only
      have hil : i < L.length := by
        have h1 := (List.getElem?_eq_some_iff.mp hi).1
        rw [tab.siz] at h1
        simpa [hashS] using h1
      obtain ⟨p, hp⟩ : ∃ p, L[i]? = some p := ⟨_, List.getElem?_eq_getElem hil⟩
      have hpL := List.mem_of_getElem? hp
      have rest : wpAny (model P w) A (searchRest a (.ref x) g true f es t (way t.mask g (c + q)) i (nth t.mask p0 (c + (q + 1)))) Q E s := by
        unfold searchRest
        rw [R.entry hp]
        dsimp only
        refine wpAny_bind (wpAny_holding (S.k.eqBool (S.roomy hu) (its p hpL) hx ?_))
        refine wpAny_bind (wpAny_setState_of ho hd fit ?_)
        dsimp only
        by_cases same : p.2 = k
        · refine wp_if_pos (by simp [same]) (wpAny_pure (hin (List.mem_map.mpr ⟨p, hpL, same⟩)))
        · refine wp_if_neg (by simp [same]) ?_
          try refine wpAny_bind (wpAny_pure ?_)
          have mem : t.sameMemory t.moves t.mask = some true := by simp [SetTable.sameMemory]
          rw [mem]
          dsimp only
          have live := slot_live tab.ris hi
          simp only [if_true, live, R.entry hp]
          refine wpAny_bind (wpAny_isSame_ref_self (wpAny_bind (wpAny_pure ?_)))
          simp only [if_true]
          refine wp_if_neg (by simp [same]) ?_
          refine ih (c + (q + 1)) _ (by rw [Option.getD_some, hp0]) (by omega) (by omega) fun i0 p1 h1 h2 => ?_
          obtain ⟨d, d1, d2, d3⟩ := hre i0 p1 h1 h2
          refine ⟨d, ?_, d2, d3⟩
          have ne1 : ¬ d < c + q := fun z => by
            refine before (d - c) i0 (by omega) (by rw [shift, ← wayd, Nat.add_sub_cancel' d1]; exact d3) ?_
            show (es[i0]?.map (·.1)).getD 0 = g
            rw [hashAt i0 p1 h1, h2, hg]
          have ne2 : d ≠ c + q := fun z => by
            rw [z] at d3
            have l2 := slot_live tab.ris d3
            rw [live] at l2
            injection l2 with l2
            rw [← l2, hp] at h1
            exact same (by rw [Option.some.inj h1]; exact h2)
          omega
      by_cases hl : t.led = true
      · refine wp_if_neg (by simp [hl]) ?_
        try refine wpAny_bind (wpAny_pure ?_)
        exact rest
      · refine wp_if_pos (by simp [hl]) (wpAny_bind (unseen hx (fun y hy => ?_) ?_))
        · obtain ⟨e, e1, e2⟩ := List.mem_map.mp hy
          have e3 : e ∈ es.toList := by
            have : e ∈ es ∧ e.1 = g := by simpa using e1
            simpa using this.1
          rw [rows] at e3
          obtain ⟨p2, q1, q2⟩ := List.mem_map.mp e3
          exact ⟨p2.2, p2.1, by rw [← e2, ← q2], its p2 q1⟩
        · refine wp_if_neg (by decide) ?_
          try refine wpAny_bind (wpAny_pure ?_)
          exact rest
    · rw [shift, ← wayd, Nat.add_sub_cancel' hc] at found
      have found' : t.probe (fun i => (es[i]?.map (·.1)).getD 0) g (stand.getD (t.probeStart g)) = some (.empty (way t.mask g n) none) := by rw [hst]; exact found
      rw [found']
      dsimp only
      refine wpAny_pure (hout fun hm => ?_)
      obtain ⟨p1, h1, h2⟩ := List.mem_map.mp hm
      obtain ⟨i0, _, e0⟩ := List.getElem_of_mem h1
      have h3 : L[i0]? = some p1 := by rw [List.getElem?_eq_getElem (by assumption), e0]
      obtain ⟨d, d1, d2, d3⟩ := hre i0 p1 h3 h2
      refine before (d - c) i0 (by omega) (by rw [shift, ← wayd, Nat.add_sub_cancel' d1]; exact d3) ?_
      show (es[i0]?.map (·.1)).getD 0 = g
      rw [hashAt i0 p1 h3, h2, hg]
theorem find_to_add (R : SetB S s.heap a L es ep t) (its : ∀ p ∈ L, S.k.is s.heap p.2 p.1) {x : Addr} {k : K} (hx : S.k.is s.heap k x) (hu : A.units < cLine) {g : Int} (hg : S.k.hash k = g) {Q : SetFound → Shared → Prop}
    (hin : k ∈ L.map (·.2) → Q (.there none) s) (hout : ∀ n, k ∉ L.map (·.2) → way t.mask g n ∉ t.place.toList → (∀ c, c < n → way t.mask g c ∈ t.place.toList) → Q (.free (way t.mask g n) false) s) :
    wpAny (model P w) A (setSearch a (.ref x) g true) Q E s := by
  have hr := R.room
  have hm := R.msk.le
  obtain ⟨n, n1, n2, n3⟩ := R.tab.gap (by simp [hashS]; omega) g
  have big : n < 100000 := by unfold SetTable.turns at n1; omega
  unfold setSearch
  refine find_from R its hx hu hg n2 n3 n1 hin (fun q => hout n q n2 n3) 100000 0 none rfl (Nat.zero_le _) (by omega) fun i p h1 h2 => ?_
  have h3 : (hashS S L)[i]? = some g := by simp [hashS, h1, h2, hg]
  have hl : i < t.place.toList.length := by rw [R.tab.siz]; exact (List.getElem?_eq_some_iff.mp h3).1
  obtain ⟨c, c1, c2⟩ := R.tab.ahead n2 h3 (List.getElem?_eq_getElem hl)
  exact ⟨c, Nat.zero_le _, c1, by rw [c2]; exact List.getElem?_eq_getElem hl⟩
end
end PLs
set_option maxHeartbeats 2000000
/-! PST3: sets by a kind: laid anew, one put in. -/
namespace PLs
open PySem PySem.Spec PyProof.Rows L2
section
variable {P : Program} {w : World} {K : Type} [DecidableEq K] {S : SKind P w K} {A : Around} {E : Value → Shared → Prop} {s : Shared}
variable {a : Addr} {L : List (Addr × K)} {es : Array (Int × Value)} {ep : Nat} {t : SetTable}
theorem picked {α β γ : Type} (xs : List α) (f : α → β) : ∀ (ix : List Nat), (∀ i ∈ ix, i < xs.length) → ix.filterMap (fun i => (xs.map f)[i]?) = (ix.filterMap fun i => xs[i]?).map f
  | [], _ => rfl
  | i :: ix, h => by
    have hi := h i (by simp)
    have ih := picked (γ := γ) xs f ix fun j hj => h j (by simp [hj])
    have e : (xs.map f)[i]? = some (f xs[i]) := by simp [hi]
    simp only [List.filterMap_cons, e, List.getElem?_eq_getElem hi, ih, List.map_cons]
theorem picked_hash (xs : List (Addr × K)) (H : Array Int) (hH : H.toList = hashS S xs) : ∀ (ix : List Nat), (∀ i ∈ ix, i < xs.length) → hashS S (ix.filterMap fun i => xs[i]?) = ix.map fun i => H.getD i 0
  | [], _ => rfl
  | i :: ix, h => by
    have hi := h i (by simp)
    have ih := picked_hash xs H hH ix fun j hj => h j (by simp [hj])
    have e : H.getD i 0 = S.k.hash (xs[i]).2 := by
      rw [Array.getD_eq_getD_getElem?, ← Array.getElem?_toList, hH]
      simp [hashS, hi]
    simp only [List.filterMap_cons, List.getElem?_eq_getElem hi, List.map_cons, e, ← ih]
    rfl
theorem all_picked {α : Type} (xs : List α) : (List.range xs.length).filterMap (fun i => xs[i]?) = xs := by
  induction xs with
  | nil => rfl
  | cons x xs ih =>
    rw [List.length_cons, List.range_succ_eq_map, List.filterMap_cons]
    simp only [List.getElem?_cons_zero, List.filterMap_map, Function.comp_def, List.getElem?_cons_succ]
    rw [ih]
/-- the rows in another order -/
theorem order_of (hr : es.toList = rowsS S L) (order : Array Nat) (hp : order.toList.Perm (List.range L.length)) :
    ∃ L2, (order.filterMap (es[·]?)).toList = rowsS S L2 ∧ L2.Perm L ∧ hashS S L2 = order.toList.map fun i => (es.map (·.1)).getD i 0 := by
  have lt : ∀ i ∈ order.toList, i < L.length := fun i hi => List.mem_range.mp (hp.mem_iff.mp hi)
  refine ⟨order.toList.filterMap fun i => L[i]?, ?_, ?_, ?_⟩
  · rw [Array.toList_filterMap]
    have e : (fun i => es[i]?) = fun i => (L.map fun p => (S.k.hash p.2, Value.ref p.1))[i]? := funext fun i => by
      rw [← Array.getElem?_toList, hr]; rfl
    show order.toList.filterMap (fun i => es[i]?) = _
    rw [e, picked (γ := Nat) L _ order.toList lt]; rfl
  · have := hp.filterMap fun i => L[i]?
    rw [all_picked] at this
    exact this
  · refine picked_hash L _ ?_ _ lt
    rw [Array.toList_map, hr]
    simp [rowsS, hashS]
theorem away {h h' : Heap} {o : Obj} (ho : h.get? a = some o) (hd : o.data = .set es ep t) (sb : Heap.SameBut a h h') (its : ∀ p ∈ L, S.k.is h p.2 p.1) : ∀ p ∈ L, S.k.is h' p.2 p.1 := fun p hp => S.same (its p hp) ho hd sb
theorem relay_of {o : Obj} (ho : s.heap.get? a = some o) (hex : o.ExactSet) (hd : o.data = .set es ep t) (hr : es.toList = rowsS S L) (T : TabG t (hashS S L)) (nd : (L.map (·.2)).Nodup)
    (ld : w.params.followText "set-order" = true ∨ t.led = true) (few : L.length ≤ 4000) (fl : L.length ≤ t.mask) {wanted M : Nat} (hw : SetTable.sizeAbove wanted = M + 1) (hM : Mok M) (hn : L.length * 5 < M * 3) {Q : Unit → Shared → Prop}
    (hQ : ∀ h' L' es' ep' t', Heap.SameBut a s.heap h' → SetB S h' a L' es' ep' t' → L'.Perm L → Q () { s with heap := h' }) : wpAny (model P w) A (setRelay a wanted) Q E s := by
  have hsz : es.size = L.length := by rw [← Array.length_toList, hr]; simp [rowsS]
  have fit : t.fits es.size = true := fits_of T.nod (by rw [T.siz, hsz]; simp [hashS]) (by omega)
  obtain ⟨t', order, e, hp, T', em, el, _⟩ := relaid_all t (hs := es.map (·.1)) (wanted := wanted) (M := M) (by omega) hM.mk (by rw [Array.size_map, hsz]; omega)
  rw [Array.size_map, hsz] at hp
  obtain ⟨L2, r1, r2, r3⟩ := order_of hr order hp
  rw [← r3] at T'
  have hs2 : (order.filterMap (es[·]?)).size = es.size := by
    rw [← Array.length_toList, r1, hsz, ← r2.length_eq]; simp [rowsS]
  have hm := hM.le
  rw [setRelay_eq]
  refine wpAny_bind (wpAny_setState_of ho hd fit ?_)
  dsimp only
  refine wp_if_neg (by rw [hw, sizeLine_eq]; omega) ?_
  try refine wpAny_bind (wpAny_pure ?_)
  rw [e]
  dsimp only
  refine wpAny_bind (wp_if_neg (by simp [hs2]) ?_)
  try refine wpAny_bind (wpAny_pure ?_)
  refine wpAny_pure ?_
  dsimp only
  refine wpAny_storeSet_of ho hd ?_ (by rw [hs2, hsz, sizeLine_eq]; omega)
  refine hQ _ L2 _ (ep + 1) t' (Heap.SameBut.update ..) ⟨⟨_, store_at ho hd, ⟨hex.1, hex.2.1, hex.2.2⟩, rfl⟩, r1, T', (r2.map _).nodup_iff.mpr nd, by rw [el]; exact ld, by rw [em]; exact hM, by rw [r2.length_eq, em]; exact hn, by rw [r2.length_eq]; exact few⟩ r2
theorem rows_mid (L : List (Addr × K)) (p : Nat) (x : Addr) (k : K) : rowsS S (L.take p ++ (x, k) :: L.drop p) = (rowsS S L).take p ++ (S.k.hash k, Value.ref x) :: (rowsS S L).drop p := by
  simp [rowsS, List.map_take, List.map_drop]
theorem hash_mid (L : List (Addr × K)) (p : Nat) (x : Addr) (k : K) : hashS S (L.take p ++ (x, k) :: L.drop p) = (hashS S L).take p ++ S.k.hash k :: (hashS S L).drop p := by
  simp [hashS, List.map_take, List.map_drop]
theorem above5 : SetTable.sizeAbove (SetTable.grown 5) = 31 + 1 := by decide +kernel
theorem above19 : SetTable.sizeAbove (SetTable.grown 19) = 127 + 1 := by decide +kernel
theorem above77 : SetTable.sizeAbove (SetTable.grown 77) = 511 + 1 := by decide +kernel
theorem above307 : SetTable.sizeAbove (SetTable.grown 307) = 2047 + 1 := by decide +kernel
theorem above1229 : SetTable.sizeAbove (SetTable.grown 1229) = 8191 + 1 := by decide +kernel
/-- a full table's next size -/
theorem next_size {m n : Nat} (hm : Mok m) (h1 : (n - 1) * 5 < m * 3) (h2 : m * 3 ≤ n * 5) (hn : n ≤ 4000) (h0 : 1 ≤ n) : ∃ M, SetTable.sizeAbove (SetTable.grown n) = M + 1 ∧ Mok M ∧ n * 5 < M * 3 := by
  rcases hm with e | e | e | e | e | e <;> subst e
  · have : n = 5 := by omega
    subst this; exact ⟨31, above5, by unfold Mok; omega, by decide⟩
  · have : n = 19 := by omega
    subst this; exact ⟨127, above19, by unfold Mok; omega, by decide⟩
  · have : n = 77 := by omega
    subst this; exact ⟨511, above77, by unfold Mok; omega, by decide⟩
  · have : n = 307 := by omega
    subst this; exact ⟨2047, above307, by unfold Mok; omega, by decide⟩
  · have : n = 1229 := by omega
    subst this; exact ⟨8191, above1229, by unfold Mok; omega, by decide⟩
  · omega
theorem tab_led {t : SetTable} {hs : List Int} (b : Bool) (T : TabG t hs) : TabG (if b = true then t else { t with plain := false }) hs := by
  cases b
  · exact ⟨T.ris, T.nod, T.siz, T.msk, T.low, T.fnd⟩
  · exact T
/-- one put in -/
theorem add_one (R : SetB S s.heap a L es ep t) (its : ∀ p ∈ L, S.k.is s.heap p.2 p.1) {x : Addr} {k : K} (hx : S.k.is s.heap k x) (hu : A.units < cLine) (few : L.length + 1 ≤ 4000) {Q : Bool → Shared → Prop}
    (hQ : ∀ b h' L' es' ep' t', Heap.SameBut a s.heap h' → SetB S h' a L' es' ep' t' → (k ∈ L.map (·.2) → L' = L) → (k ∉ L.map (·.2) → L'.Perm ((x, k) :: L)) → Q b { s with heap := h' }) :
    wpAny (model P w) A (setAddHashed a (.ref x) (S.k.hash k)) Q E s := by
  have R0 := R
  obtain ⟨⟨o, ho, hex, hd⟩, rows, tab, nd, led, msk, room, _⟩ := R0
  have hsz := R.size
  generalize hg : S.k.hash k = g
  unfold setAddHashed
  refine wpAny_holding ?_
  rw [show (100000 : Nat) = 99999 + 1 from rfl, setAddHashedIn_succ]
  refine wpAny_bind (wpAny_setState_of ho hd R.fits ?_)
  dsimp only
  refine wp_if_neg (by simp [byScan, Value.scannable]) ?_
  try refine wpAny_bind (wpAny_pure ?_)
  refine wpAny_bind (find_to_add R its hx hu hg (fun hm => ?_) fun n hm hn hb => ?_)
  · dsimp only
    exact wpAny_pure (hQ false s.heap L es ep t (Heap.SameBut.refl a s.heap) R (fun _ => rfl) fun z => absurd hm z)
  dsimp only
  refine wpAny_bind (wpAny_setState_of ho hd R.fits ?_)
  dsimp only
  obtain ⟨p, t1, e1, pl, T1, em, el, _, ef⟩ := tab.more hn hb
  rw [e1]
  dsimp only
  have pL : p ≤ L.length := by simpa [hashS] using pl
  have ef' : t1.fill = L.length + 1 := by simpa [hashS] using ef
  have rows1 : (SetTable.insertAt es p (g, Value.ref x)).toList = rowsS S (L.take p ++ (x, k) :: L.drop p) := by
    rw [SetTable.toList_insertAt, rows_mid, rows, hg]
  have T1' : TabG t1 (hashS S (L.take p ++ (x, k) :: L.drop p)) := by rw [hash_mid, hg]; exact T1
  have pm : (L.take p ++ (x, k) :: L.drop p).Perm ((x, k) :: L) := by
    have := List.perm_middle (a := (x, k)) (l₁ := L.take p) (l₂ := L.drop p)
    rwa [List.take_append_drop] at this
  have fin : ∀ (b : Bool), wpAny (model P w) A (do
        let t := if b = true then t1 else { t1 with plain := false }
        storeSet a (SetTable.insertAt es p (g, Value.ref x)) t
        if (!false && t.tooFull) = true then setRelay a (SetTable.grown (es.size + 1))
        return true) Q E s := by
    intro b
    dsimp only
    have T2 := tab_led b T1'
    have em2 : (if b = true then t1 else { t1 with plain := false }).mask = t.mask := by cases b <;> exact em
    have el2 : (if b = true then t1 else { t1 with plain := false }).led = t.led := by cases b <;> exact el
    have ef2 : (if b = true then t1 else { t1 with plain := false }).fill = L.length + 1 := by cases b <;> exact ef'
    generalize (if b = true then t1 else { t1 with plain := false }) = t2 at T2 em2 el2 ef2 ⊢
    generalize SetTable.insertAt es p (g, Value.ref x) = es1 at rows1 ⊢
    have hlen := pm.length_eq
    generalize L.take p ++ (x, k) :: L.drop p = L1 at rows1 T2 pm hlen
    simp only [List.length_cons] at hlen
    have sz1 : es1.size = L.length + 1 := by rw [← Array.length_toList, rows1, ← hlen]; simp [rowsS]
    have nd1 : (L1.map (·.2)).Nodup := (pm.map _).nodup_iff.mpr (by rw [List.map_cons]; exact List.nodup_cons.mpr ⟨hm, nd⟩)
    refine wpAny_bind (wpAny_storeSet_of ho hd ?_ (by rw [sz1, sizeLine_eq]; omega))
    have sb : Heap.SameBut a s.heap (s.heap.update a (Obj.putSet es1 t2)) := Heap.SameBut.update ..
    have ho1 := store_at (es' := es1) (t' := t2) ho hd
    generalize s.heap.update a (Obj.putSet es1 t2) = h1 at sb ho1 ⊢
    by_cases full : t2.tooFull = true
    · have fl : t.mask * 3 ≤ (L.length + 1) * 5 := by
        have := full
        unfold SetTable.tooFull at this
        rw [decide_eq_true_eq, ef2, em2] at this
        exact this
      obtain ⟨M, m1, m2, m3⟩ := next_size msk (n := L.length + 1) (by simpa using room) fl few (by omega)
      have tailR : wpAny (model P w) A (setRelay a (SetTable.grown (es.size + 1))) (fun _ s' => wpAny (model P w) A (pure true) Q E s') E { s with heap := h1 } := by
        rw [hsz]
        refine relay_of (s := { s with heap := h1 }) ho1 ⟨hex.1, hex.2.1, hex.2.2⟩ rfl rows1 T2 nd1 (by rw [el2]; exact led) (by omega) (by rw [em2]; have := msk.odd; omega) m1 m2 (by rw [hlen]; exact m3) ?_
        intro h2 L2 es2 ep2 t3 sb2 R2 pm2
        exact wpAny_pure (hQ true h2 L2 es2 ep2 t3 (sb.trans sb2) R2 (fun z => absurd z hm) fun _ => pm2.trans pm)
      first
        | (refine wpAny_bind ?_; exact wp_if_pos (by simp [full]) tailR)
        | exact wp_if_pos (by simp [full]) (wpAny_bind tailR)
    · have done : Q true { s with heap := h1 } := by
        refine hQ true h1 L1 es1 (ep + 1) t2 sb ⟨⟨_, ho1, ⟨hex.1, hex.2.1, hex.2.2⟩, rfl⟩, rows1, T2, nd1, by rw [el2]; exact led, by rw [em2]; exact msk, ?_, by omega⟩ (fun z => absurd z hm) fun _ => pm
        have := full
        unfold SetTable.tooFull at this
        rw [decide_eq_true_eq, ef2, em2] at this
        rw [hlen, em2]
        omega
      first
        | (refine wpAny_bind ?_; exact wp_if_neg (by simp [full]) (wpAny_pure (wpAny_pure done)))
        | exact wp_if_neg (by simp [full]) (wpAny_pure done)
  by_cases hpl : t1.plain = true
  · first
      | (refine wpAny_bind ?_; refine wp_if_pos hpl ?_; exact S.byv hx fun b => fin b)
      | exact wp_if_pos hpl (wpAny_bind (S.byv hx fun b => fin b))
  · first
      | (refine wpAny_bind ?_; refine wp_if_neg hpl ?_; exact wpAny_pure (fin true))
      | exact wp_if_neg hpl (wpAny_bind (wpAny_pure (fin true)))
end
end PLs
set_option maxHeartbeats 4000000
/-! PST4: set(a list of such things). -/
namespace PLs
open PySem PySem.Spec PyProof.Rows L2
section
variable {P : Program} {w : World} {K : Type} [DecidableEq K] {S : SKind P w K} {A : Around} {E : Value → Shared → Prop} {s : Shared}
variable {a : Addr} {L : List (Addr × K)} {es : Array (Int × Value)} {ep : Nat} {t : SetTable}
/-- what the first i of the handed ones have made -/
structure Had (ks : List (Addr × K)) (i : Nat) (L : List (Addr × K)) : Prop where
  of : ∀ p ∈ L, p ∈ ks.take i
  to : ∀ p ∈ ks.take i, p.2 ∈ L.map (·.2)
  le : L.length ≤ i
theorem Had.none (ks : List (Addr × K)) : Had ks 0 [] := ⟨by simp, by simp, Nat.le_refl _⟩
theorem Had.step {ks L L' : List (Addr × K)} {i : Nat} {x : Addr × K} (g : Had ks i L) (e : ks[i]? = some x) (c1 : x.2 ∈ L.map (·.2) → L' = L) (c2 : x.2 ∉ L.map (·.2) → L'.Perm (x :: L)) : Had ks (i + 1) L' := by
  have tk : ks.take (i + 1) = ks.take i ++ [x] := by rw [List.take_succ, e]; rfl
  by_cases c : x.2 ∈ L.map (·.2)
  · rw [c1 c]
    refine ⟨fun p hp => by rw [tk]; exact List.mem_append_left _ (g.of p hp), fun p hp => ?_, Nat.le_succ_of_le g.le⟩
    rw [tk] at hp
    rcases List.mem_append.mp hp with z | z
    · exact g.to p z
    · rw [List.mem_singleton.mp z]; exact c
  · have pm := c2 c
    refine ⟨fun p hp => ?_, fun p hp => ?_, by rw [pm.length_eq]; exact Nat.succ_le_succ g.le⟩
    · rw [tk]
      rcases List.mem_cons.mp (pm.mem_iff.mp hp) with z | z
      · rw [z]; simp
      · exact List.mem_append_left _ (g.of p z)
    · rw [(pm.map (·.2)).mem_iff, List.map_cons]
      rw [tk] at hp
      rcases List.mem_append.mp hp with z | z
      · exact List.mem_cons_of_mem _ (g.to p z)
      · rw [List.mem_singleton.mp z]; simp
theorem SetB.up {h h' : Heap} (R : SetB S h a L es ep t) (k : ∀ o, h.get? a = some o → h'.get? a = some o) : SetB S h' a L es ep t := by
  obtain ⟨o, ho, r⟩ := R.ob
  exact ⟨⟨o, k o ho, r⟩, R.rows, R.tab, R.nd, R.led, R.msk, R.room, R.few⟩
abbrev freshObj (w : World) : Obj := { cls := .type "set", dict := none, data := .set #[] 0 (.fresh 0 0 (!w.params.followText "set-order")) }
theorem SetB.new {h : Heap} (e : h.get? a = some (freshObj w)) : SetB S h a [] #[] 0 (.fresh 0 0 (!w.params.followText "set-order")) := by
  refine ⟨⟨_, e, ⟨rfl, rfl, rfl⟩, rfl⟩, rfl, ⟨List.Pairwise.nil, rfl, rfl, ⟨3, by decide, by decide, rfl⟩, fun x hx => (by cases hx), fun i h j hi => (by simp [hashS] at hi)⟩, List.nodup_nil, ?_, .inl rfl, ?_, Nat.zero_le _⟩
  · show _ ∨ (!w.params.followText "set-order") = true
    cases w.params.followText "set-order"
    · exact .inr rfl
    · exact .inl rfl
  · show 0 * 5 < 7 * 3
    decide
variable (S) in
/-- how a thing of the kind is hashed -/
def HashOk : Prop := ∀ {A : Around} {E : Value → Shared → Prop} {s : Shared} {x : K} {b : Addr} {Q : Int → Shared → Prop}, A.units < cLine → S.k.is s.heap x b → (∀ tk, s.toks ≤ tk → Q (S.k.hash x) { s with toks := tk }) → wpAny (model P w) A (pyHash (.ref b)) Q E s
theorem hash_ok : HashOk S := fun hu hx h => S.k.pyHash (S.roomy hu) hx (h _ (Nat.le_add_right _ _))
/-- the loop of set.update -/
theorem update_loop {I : Addr} {fp wr : List Addr} {G : Array GenState → Array GenState → Prop} {n : Nat} {Pv : Nat → Value → Prop} {St : Nat → Shared → Prop} {R : Result → Shared → Prop}
    (W : WalksS P w A.in1 I fp wr G n Pv St) (d : Addr) (hd : d ∉ fp) (ks : List (Addr × K)) (hn : n = ks.length) (few : ks.length ≤ 4000) (hv : ∀ i v, Pv i v → ∃ p, ks[i]? = some p ∧ v = .ref p.1)
    (base : Heap) (its : ∀ p ∈ ks, S.k.is base p.2 p.1) (hd0 : base.get? d = none) (hw0 : ∀ b ∈ wr, base.get? b = none) (hu : A.in1.units < cLine) :
    ∀ (m i : Nat) (s : Shared), n - i = m → i ≤ n → St i s → (∀ b o, base.get? b = some o → s.heap.get? b = some o) → (∃ L es ep t, SetB S s.heap d L es ep t ∧ Had ks i L) →
      (∀ s' L es ep t, Moved (d :: wr) G s s' → SetB S s'.heap d L es ep t → Had ks n L → (∀ b o, base.get? b = some o → s'.heap.get? b = some o) → R (.ok (.ret .none)) s') →
      codeAny (model P w) A (.builtin "set.update.loop" ⟨[.ref d, .ref I], []⟩) R s := by
  have ndw : d ∉ wr := fun z => hd (W.sub _ z)
  have wider : ∀ b ∈ wr, b ∈ d :: wr := fun b hb => List.mem_cons_of_mem _ hb
  have stays : ∀ {u v : Shared}, Moved wr G u v → (∀ b o, base.get? b = some o → u.heap.get? b = some o) → ∀ b o, base.get? b = some o → v.heap.get? b = some o := fun mv k b o e =>
    mv.heap b o (fun z => by rw [hw0 b z] at e; cases e) (k b o e)
  intro m
  induction m with
  | zero =>
    intro i s hm hi st k ⟨L, es, ep, t, B, g⟩ fin
    obtain rfl : i = n := by omega
    refine codeAny_builtin F.entry_set_update_loop ?_
    rw [Around.under_plainId F.plain_set_update_loop _]
    show wpAny _ A.in1 (pyNext (.ref I) >>= _) _ _ s
    refine wpAny_bind (W.done s _ _ st fun s' mv => ?_)
    show wpAny _ A.in1 (ret Value.none) _ _ s'
    exact wpAny_pure (fin s' L es ep t (mv.mono wider) (B.up fun o e => mv.heap d o ndw e) g (stays mv k))
  | succ m ih =>
    intro i s hm hi st k ⟨L, es, ep, t, B, g⟩ fin
    refine codeAny_builtin F.entry_set_update_loop ?_
    rw [Around.under_plainId F.plain_set_update_loop _]
    show wpAny _ A.in1 (pyNext (.ref I) >>= _) _ _ s
    refine wpAny_bind (W.item i s _ _ (by omega) st fun v s' hP st' mv => ?_)
    obtain ⟨p, hp, rfl⟩ := hv i v hP
    have k' := stays mv k
    have fresh : ∀ q ∈ ks, S.k.is s'.heap q.2 q.1 := fun q hq => S.keep (its q hq) k'
    have sub : ∀ q ∈ L, q ∈ ks := fun q hq => List.mem_of_mem_take (g.of q hq)
    have B' : SetB S s'.heap d L es ep t := B.up fun o e => mv.heap d o ndw e
    have hx := fresh p (List.mem_of_getElem? hp)
    show wpAny _ A.in1 (holding [Value.ref p.1] (setAdd d (.ref p.1)) >>= _) _ _ s'
    refine wpAny_bind (wpAny_holding ?_)
    unfold setAdd
    refine wpAny_holding (wpAny_bind (hash_ok (S := S) hu hx fun tk htk => ?_))
    refine add_one (s := { s' with toks := tk }) B' (fun q hq => fresh q (sub q hq)) hx hu (by have := g.le; omega) fun b h' L' es' ep' t' sb B2 c1 c2 => ?_
    have k2 : ∀ b o, base.get? b = some o → h'.get? b = some o := fun b o e => (sb.2 b fun z => by rw [z, hd0] at e; cases e).trans (k' b o e)
    refine wpAny_pure ⟨plainId_quiet F.plain_set_update_loop _, ih (i + 1) _ (by omega) (by omega) (W.frame _ s' _ _ st' htk fun b hb o e => by rw [sb.2 b fun z => hd (by rw [← z]; exact hb)]; exact e) k2 ⟨L', es', ep', t', B2, g.step hp c1 c2⟩ fun s'' L2 es2 ep2 t2 mv2 B3 g3 k3 => ?_⟩
    exact fin s'' L2 es2 ep2 t2 (Moved.trans W.gtrans ((mv.mono wider).then_heap htk fun b o hb e => by rw [sb.2 b fun z => hb (by rw [z]; simp)]; exact e) mv2) B3 g3 k3
/-- set(xs) -/
theorem set_of_list {l : Addr} {items : Array Value} (ks : List (Addr × K)) {Q : Value → Shared → Prop} (hh : A.handled = none) (hl : s.heap.IsList l items) (hit : items.toList = ks.map fun p => Value.ref p.1)
    (its : ∀ p ∈ ks, S.k.is s.heap p.2 p.1) (few : ks.length ≤ 4000) (hu : A.units + 3 < cLine)
    (fin : ∀ (h' : Heap) (tk : Nat) L es ep t, SetB S h' s.heap.objs.size L es ep t → Had ks ks.length L → (∀ b o, s.heap.get? b = some o → h'.get? b = some o) → Q (.ref s.heap.objs.size) { s with heap := h', toks := tk }) :
    wpAny (model P w) A (call (.type "set") [.ref l]) Q E s := by
  have len : items.size = ks.length := by rw [← Array.length_toList, hit, List.length_map]
  have at_ : ∀ (i : Nat) (v : Value), items[i]? = some v → ∃ p, ks[i]? = some p ∧ v = .ref p.1 := fun i v e => by
    rw [← Array.getElem?_toList, hit, List.getElem?_map] at e
    cases q : ks[i]? with
    | none => rw [q] at e; cases e
    | some p => rw [q] at e; exact ⟨p, rfl, (Option.some.inj e).symm⟩
  have out_ : ∀ b, s.heap.objs.size ≤ b → s.heap.get? b = none := fun b hb => by
    cases q : s.heap.get? b with
    | none => rfl
    | some o => exact absurd (Heap.lt_size q) (Nat.not_lt_of_le hb)
  generalize hD : s.heap.objs.size = D at fin out_
  obtain ⟨c, tl, f_mro⟩ := F.called_set.mro
  have f_made := F.called_set.made
  have f_sub := F.called_set.sub
  have f_nt := F.called_set.notType
  have f_cc := F.called_set.canCreate
  have f_tc := F.typeCall_set_1 (.ref l)
  refine wpAny_call (codeAny_of_tree ?_)
  show wpAny _ _ (callAny (.type "set") _) _ _ _
  refine wpAny_pure ⟨Code.quiet_builtin _ (by decide +kernel), codeAny_builtin F.entry_type_call ?_⟩
  rw [Around.under_plain (weight_type_call_type "set" [.ref l] []) rfl]
  repeat (any_goals (first | assumption | wp_step))
  refine codeAny_mono (code_set_led1 (.ref l) (E := E) (Q₁ := fun v u => v = .ref D ∧ u = { s with heap := s.heap.push (freshObj w) }) ⟨by rw [hD], rfl⟩) fun r u hr => ?_
  match r, hr with
  | .error e, hr => exact hr
  | .ok (.ret v), hr =>
    obtain ⟨rfl, rfl⟩ := hr
    have o1 : (s.heap.push (freshObj w)).get? D = some (freshObj w) := by rw [← hD]; exact Heap.get?_push_size _ rfl
    have ty1 : Shared.TypeIs { s with heap := s.heap.push (freshObj w) } (.ref D) "set" := ⟨_, o1, rfl⟩
    have f_il := F.called_set.init.lookup
    have f_ib := F.called_set.init.bind (.ref D)
    repeat (any_goals (first | assumption | wp_step))
    refine codeAny_mono (codeAny_call_builtin (R := wants (fun r s₂ => r = .none ∧ ∃ h' tk L es ep t, s₂ = { s with heap := h', toks := tk } ∧ SetB S h' D L es ep t ∧ Had ks ks.length L ∧ ∀ b o, s.heap.get? b = some o → h'.get? b = some o) E) F.called_set.init.plain F.entry_set_init (check_set_init_1 ty1 ?_)) fun r2 s2 hr2 => ?_
    · obtain ⟨⟨lc, ld, ldat, ls⟩, l1, l2, ln, l3⟩ := hl
      simp only at l2 l3
      subst l2; subst l3
      have l4 : (s.heap.push (freshObj w)).get? l = some { cls := .type "list", dict := ld, data := .seq items ln, slots := ls } := Heap.get?_push_of_some _ l1
      have isl : (s.heap.push (freshObj w)).IsList l items := ⟨_, l4, rfl, ln, rfl⟩
      have f_ls := F.sub_list_set
      have f_lf := F.sub_list_frozenset
      have f_ld : (Value.type "list" == Value.type "dict") = false := by decide
      unfold Builtin.«set.__init__» noKeywords Builtin.Frozenset.updateFrom
      generalize hIt : pyIter = it
      wp_walk
      subst hIt
      refine wpAny_pyIter_list isl ?_
      refine wpAny_bind (wpAny_runValue ?_)
      have lD : l < D := by rw [← hD]; exact Heap.lt_size l1
      have sz : (s.heap.push (freshObj w)).objs.size = D + 1 := by rw [← hD]; exact Heap.size_push ..
      have hin : A.in1.in1.in1.handled = none := by simp [hh]
      refine update_loop ((Walks.list hin (s.heap.push (freshObj w)).objs.size l (by rw [sz]; exact Nat.ne_of_lt (Nat.lt_succ_of_lt lD)) items).toS) D (by rw [sz]; intro z; rcases List.mem_cons.mp z with z | z; exact Nat.succ_ne_self D z.symm; exact Nat.ne_of_gt lD (List.mem_singleton.mp z)) ks len few at_ s.heap its (out_ _ (Nat.le_refl _)) (fun b hb => out_ b (by rw [List.mem_singleton.mp hb, sz]; exact Nat.le_succ D)) hu (items.size - 0) 0 _ (by omega) (Nat.zero_le _) ?st (fun b o e => Heap.get?_push_of_some _ (Heap.get?_push_of_some _ e)) ?had ?fin
      case st => exact ⟨⟨_, Heap.get?_push_size _ rfl, rfl, rfl⟩, isl.push _⟩
      case had => exact ⟨[], #[], 0, _, SetB.new (Heap.get?_push_of_some _ o1), Had.none ks⟩
      case fin =>
        rintro ⟨h', g2, d2, tk, os2⟩ L es ep t mv B g k
        have e1 : g2 = s.gens := mv.gens
        have e2 : d2 = s.drawn := mv.drawn
        have e3 : os2 = s.os := mv.os
        subst e1; subst e2; subst e3
        rw [len] at g
        show wpAny _ _ _ _ _ _
        refine wpAny_pure ?_
        show wpAny _ _ (ret Value.none) _ _ _
        exact wpAny_pure ⟨rfl, h', tk, L, es, ep, t, rfl, B, g, k⟩
    · match r2, hr2 with
      | .error e, hr2 => exact hr2
      | .ok (.ret v), hr2 =>
        obtain ⟨rfl, h', tk, L, es, ep, t, rfl, B, g, k⟩ := hr2
        repeat (any_goals (first | assumption | wp_step))
        exact fin _ _ _ _ _ _ B g k
end
end PLs
set_option maxHeartbeats 4000000
/-! PST5: tuples of ints and texts in order; sorted of lists and of sets of such. -/
namespace PLs
open PySem PySem.Spec PyProof.Rows PySem.W L2
/-! ### the order -/
def kk : Key → Int ⊕ List Nat
  | .inl i => .inl i
  | .inr x => .inr x.cps.toList
theorem kk_inj {a b : Key} (h : kk a = kk b) : a = b := by
  cases a with
  | inl i => cases b with
    | inl j => exact congrArg Sum.inl (Sum.inl.inj h)
    | inr y => cases h
  | inr x => cases b with
    | inl j => cases h
    | inr y =>
      have e : x.cps = y.cps := Array.toList_inj.mp (Sum.inr.inj h)
      cases x; cases y
      simp only at e
      rw [e]
def kLt (x y : List Key) : Bool := lexLt itemOrd (x.map kk) (y.map kk)
theorem kLt_irr (x : List Key) : kLt x x = false := (listOrd itemOrd).irrefl _
theorem kLt_tr {x y z : List Key} (h : kLt x y = true) (h' : kLt y z = true) : kLt x z = true := (listOrd itemOrd).trans _ _ _ h h'
theorem kLt_asym {x y : List Key} (h : kLt x y = true) : kLt y x = false := by
  cases e : kLt y x with
  | false => rfl
  | true => have := kLt_tr h e; rw [kLt_irr] at this; cases this
theorem kLt_neg {x y z : List Key} (h : kLt y x = false) (h' : kLt z y = false) : kLt z x = false := by
  cases e : kLt z x with
  | false => rfl
  | true =>
    rcases (listOrd itemOrd).negTrans _ (y.map kk) _ e with q | q
    · rw [show kLt z y = true from q] at h'; cases h'
    · rw [show kLt y x = true from q] at h; cases h
theorem map_kk_inj : ∀ {x y : List Key}, x.map kk = y.map kk → x = y
  | [], [], _ => rfl
  | [], _ :: _, h => by simp at h
  | _ :: _, [], h => by simp at h
  | a :: x, b :: y, h => by
    simp only [List.map_cons, List.cons.injEq] at h
    rw [kk_inj h.1, map_kk_inj h.2]
theorem kLt_tot {x y : List Key} (h : kLt x y = false) (h' : kLt y x = false) : x = y := map_kk_inj ((listOrd itemOrd).total _ _ h h')
theorem swo_k {α : Type} (f : α → List Key) : SrtO.Swo fun u v => kLt (f u) (f v) := ⟨fun _ _ h => kLt_asym h, fun _ _ _ h h' => kLt_neg h h'⟩
/-- two keys that can be told apart by < -/
def CmpT : List Key → List Key → Prop
  | .inl a :: r, .inl b :: t => a = b → CmpT r t
  | .inr a :: r, .inr b :: t => a = b → CmpT r t
  | [], _ => True
  | _, [] => True
  | _, _ => False
section
variable {P : Program} {w : World} {A : Around} {E : Value → Shared → Prop} {s : Shared}
theorem kat_keys {b fin : Bool} {Q : Bool → Shared → Prop} : ∀ (ps qs : List Value) (i : Nat) (as bs : List Key), ItemsAre (mixKind P w) as ps → ItemsAre (mixKind P w) bs qs → CmpT as bs →
    fin = decide (ps.length < qs.length) → Q (kLt as bs) s → KatLex P w A b fin Q (ps.zip qs) i s := by
  intro ps
  induction ps with
  | nil =>
    intro qs i as bs ha hb _ hf h
    cases ha
    cases hb with
    | nil => subst hf; exact kat_nil h
    | cons _ _ => subst hf; exact kat_nil h
  | cons p ps ih =>
    intro qs i as bs ha hb hc hf h
    cases hb with
    | nil => cases ha; subst hf; exact kat_nil h
    | @cons k2 q ks2 qs2 q1 q2 =>
      cases ha with
      | @cons k1 _ ks1 _ p1 p2 =>
        have hf' : fin = decide (ps.length < qs2.length) := by rw [hf]; simp
        refine kat_cons ((mixKind P w).eqBool p1 q1 ?_)
        refine kat_go (fun e => kat_yes ?_) (fun e => kat_no ?_)
        · have ek : k1 = k2 := by simpa using e
          subst ek
          have h2 : kLt (k1 :: ks1) (k1 :: ks2) = kLt ks1 ks2 := lex_self (O := itemOrd) _ _ _
          rw [h2] at h
          have hc' : CmpT ks1 ks2 := by cases k1 <;> exact hc rfl
          exact ih qs2 (i + 1) ks1 ks2 p2 q2 hc' hf' h
        · have nk : ¬ k1 = k2 := by simpa using e
          have h2 : kLt (k1 :: ks1) (k2 :: ks2) = itemLt (kk k1) (kk k2) := lex_diff (O := itemOrd) (fun z => nk (kk_inj z))
          rw [h2] at h
          rcases keyIs_shape p1 with ⟨n, t, rfl, rfl⟩ | ⟨x, t, rfl, rfl⟩
          · rcases keyIs_shape q1 with ⟨m, u, rfl, rfl⟩ | ⟨y, u, rfl, rfl⟩
            · exact oneLt_any_int h
            · exact hc.elim
          · rcases keyIs_shape q1 with ⟨m, u, rfl, rfl⟩ | ⟨y, u, rfl, rfl⟩
            · exact hc.elim
            · exact oneLt_any_str h
abbrev IsT2 (P : Program) (w : World) (h : Heap) (k : List Key) (a : Addr) : Prop := IsTupleKey (mixKind P w) h k a
/-- v is a tuple with these items -/
def VT (P : Program) (w : World) (h : Heap) (k : List Key) (v : Value) : Prop := ∃ a, v = .ref a ∧ IsT2 P w h k a
theorem VT.keeps {h h' : Heap} {k : List Key} {v : Value} (x : VT P w h k v) (e : ∀ b o, h.get? b = some o → o.cls = .type "tuple" → h'.get? b = some o) : VT P w h' k v := by
  obtain ⟨a, rfl, o, its, n, ho, hc, r⟩ := x
  exact ⟨a, rfl, o, its, n, e a o ho hc, hc, r⟩
theorem cmp_keys {vs : List Value} {f : Value → List Key} (hf : ∀ v ∈ vs, VT P w s.heap (f v) v) (hc : ∀ u ∈ vs, ∀ v ∈ vs, CmpT (f u) (f v)) (b : Bool) : SrtO.Cmp P w A s (tuples' b) (fun p => p.1 ∈ vs) (SrtO.lt2 fun u v => kLt (f u) (f v)) := by
  intro p q hp hq
  obtain ⟨a, e1, o, xs, n, ho, _, hd, hi⟩ := hf _ hp
  obtain ⟨a', e2, o', ys, n', ho', _, hd', hi'⟩ := hf _ hq
  rw [e1, e2]
  refine kat_lt ho hd ho' hd' (kat_keys _ _ 0 _ _ hi hi' (hc _ hp _ hq) (by simp) ⟨rfl, ?_⟩)
  show kLt (f p.1) (f q.1) = kLt (f p.1) (f q.1)
  rfl
/-- the first items are of one kind -/
def Fst (b : Bool) : List Key → Prop
  | .inl _ :: _ => b = false
  | .inr _ :: _ => b = true
  | [] => False
theorem firsts {h : Heap} {b : Bool} {f : Value → List Key} : ∀ {vs : List Value}, (∀ v ∈ vs, VT P w h (f v) v) → (∀ v ∈ vs, Fst b (f v)) → ∃ fs, KatTups h vs fs ∧ fs.length = vs.length ∧ ∀ x ∈ fs, (b = false ∧ ∃ k t, x = Value.int k t) ∨ (b = true ∧ ∃ y t, x = Value.str y t)
  | [], _, _ => ⟨[], KatTups.nil, rfl, by simp⟩
  | v :: vs, hv, hb => by
    obtain ⟨fs, h1, h2, h3⟩ := firsts (vs := vs) (fun u hu => hv u (by simp [hu])) (fun u hu => hb u (by simp [hu]))
    obtain ⟨a, e, o, xs, n, ho, hc, hd, hi⟩ := hv v (by simp)
    have hv1 := hb v (by simp)
    generalize f v = k at hi hv1
    cases k with
    | nil => exact hv1.elim
    | cons k0 ks =>
      generalize hx : xs.toList = xl at hi
      cases hi with
      | @cons _ x0 _ xr p1 p2 =>
        have x00 : xs[0]? = some x0 := by rw [← Array.getElem?_toList, hx]; rfl
        refine ⟨x0 :: fs, ⟨⟨a, o, xs, n, e, ho, hc, hd, x00⟩, h1⟩, by simp [h2], fun y hy => ?_⟩
        rcases List.mem_cons.mp hy with z | z
        · subst z
          rcases keyIs_shape p1 with ⟨m, t, rfl, rfl⟩ | ⟨m, t, rfl, rfl⟩
          · exact .inl ⟨hv1, m, t, rfl⟩
          · exact .inr ⟨hv1, m, t, rfl⟩
        · exact h3 y z
theorem sortable_keys {a : Addr} {vs : List Value} {f : Value → List Key} {b : Bool} (h0 : 0 < vs.length) (hf : ∀ v ∈ vs, VT P w s.heap (f v) v) (hb : ∀ v ∈ vs, Fst b (f v)) (hc : ∀ u ∈ vs, ∀ v ∈ vs, CmpT (f u) (f v)) (ha : ∀ o, s.heap.get? a = some o → o.cls ≠ .type "tuple") :
    SrtO.SortableO P w A s a vs fun u v => kLt (f u) (f v) := by
  intro h' keep
  have hf' : ∀ v ∈ vs, VT P w h' (f v) v := fun v hv => (hf v hv).keeps fun c o e k => keep c o (fun z => by subst z; exact ha o e k) e
  obtain ⟨fs, h1, h2, h3⟩ := firsts hf' hb
  cases b with
  | false =>
    refine ⟨tuples' true, fun Q E hq => kat_kind (T := .type "int") h1 (by omega) (fun x hx => ?_) (by rfl) ?_, cmp_keys hf' hc true⟩
    · rcases h3 x hx with ⟨_, k, t, rfl⟩ | ⟨z, _⟩
      · exact Looks.now
      · cases z
    · have e : (Value.type "int" != Value.type "tuple") = true := by decide
      rw [e]; exact hq
  | true =>
    refine ⟨tuples' true, fun Q E hq => kat_kind (T := .type "str") h1 (by omega) (fun x hx => ?_) (by rfl) ?_, cmp_keys hf' hc true⟩
    · rcases h3 x hx with ⟨z, _⟩ | ⟨_, k, t, rfl⟩
      · cases z
      · exact Looks.now
    · have e : (Value.type "str" != Value.type "tuple") = true := by decide
      rw [e]; exact hq
theorem list_no_tup {xs : Array Value} {n : Nat} : (seqObj "list" xs n).cls ≠ .type "tuple" := by
  intro c
  exact absurd (Value.type.inj c) (by decide)
/-- sorted(a list) -/
theorem sorted_list {l : Addr} {vs : List Value} {f : Value → List Key} {b : Bool} {Q : Value → Shared → Prop} (hl : s.heap.IsList l vs.toArray) (hz : vs.length ≤ sizeLine) (hf : ∀ v ∈ vs, VT P w s.heap (f v) v) (hb : ∀ v ∈ vs, Fst b (f v)) (hc : ∀ u ∈ vs, ∀ v ∈ vs, CmpT (f u) (f v))
    (fin : ∀ (h' : Heap) (d : Addr) (out : List Value), out.Perm vs → out.Pairwise (fun u v => kLt (f v) (f u) = false) → (∀ b o, s.heap.get? b = some o → h'.get? b = some o) → s.heap.objs.size ≤ d → (∃ n, h'.get? d = some (seqObj "list" out.toArray n)) → Q (.ref d) { s with heap := h' }) :
    wpAny (model P w) A (call (.builtin "sorted") [.ref l]) Q E s := by
  refine SrtO.sorted_ord (swo_k f) hl hz (fun h2 h1 a ha kk => ?_) fun out hs hb => ?_
  · refine sortable_keys (s := { s with heap := h1 }) (by omega) (fun v hv => (hf v hv).keeps fun c o e _ => (kk c o e).2) hb hc fun o e => ?_
    have e' : some o = some (seqObj "list" vs.toArray 0) := e.symm.trans ha
    cases e'
    exact list_no_tup
  · exact fin _ _ out hb.perm hs (fun b o e => sortedAll_old e) (Nat.le_succ _) (sortedAll_at s.heap vs out.toArray)
/-- sorted(a set) -/
theorem sorted_set {S : SKind P w (List Key)} (hS : S.k = tupleKind (mixKind P w)) {a : Addr} {L : List (Addr × List Key)} {es : Array (Int × Value)} {ep : Nat} {t : SetTable} {Q : Value → Shared → Prop} (B : SetB S s.heap a L es ep t) (its : ∀ p ∈ L, IsT2 P w s.heap p.2 p.1) (hh : A.handled = none)
    {b : Bool} (hb : ∀ p ∈ L, Fst b p.2) (hc : ∀ p ∈ L, ∀ q ∈ L, CmpT p.2 q.2)
    (fin : ∀ (s' : Shared) (d : Addr) (out : Array Value) (c : Nat) (L' : List (Addr × List Key)), (∀ b o, s.heap.get? b = some o → s'.heap.get? b = some o) → s'.gens = s.gens → s'.os = s.os → s.heap.objs.size ≤ d →
      s'.heap.get? d = some (seqObj "list" out c) → out.toList = L'.map (fun q => Value.ref q.1) → L'.Perm L → L'.Pairwise (fun q r => kLt r.2 q.2 = false) → Q (.ref d) s') :
    wpAny (model P w) A (call (.builtin "sorted") [.ref a]) Q E s := by
  obtain ⟨o, ho, hex, hd⟩ := B.ob
  have few := B.few
  refine Calls.call_function_entry kind_sorted plain_sorted entry_sorted (args_sorted1 _) ?_
  unfold Builtin.«sorted»
  refine wpAny_bind (m := checkCount "sorted" 1 1 _) (wpAny_pure ?_)
  refine wpAny_bind (collect_set (A := A.in1) hh ⟨o, ho, hex.1, hd⟩ B.fits (by rw [B.size]; unfold scanBound; omega) B.tab.ris B.led fun s1 vs k1 hz g1 o1 pm => ?_)
  have rows : es.toList.map (·.2) = L.map fun q => Value.ref q.1 := by rw [B.rows]; simp [rowsS]
  rw [rows] at pm
  -- which key a value has
  have uniq : ∀ q ∈ L, ∀ r ∈ L, q.1 = r.1 → q = r := fun q hq r hr e => Prod.ext e ((e ▸ its q hq : IsT2 P w s.heap q.2 r.1).inj (its r hr))
  obtain ⟨f, hf⟩ : ∃ f : Value → List Key, ∀ q ∈ L, f (.ref q.1) = q.2 := by
    refine ⟨fun v => ((L.find? fun q => decide (Value.ref q.1 = v)).map (·.2)).getD [], fun q hq => ?_⟩
    cases e : L.find? fun r => decide (Value.ref r.1 = Value.ref q.1) with
    | none => have := List.find?_eq_none.mp e q hq; simp at this
    | some r =>
      have h1 := List.mem_of_find?_eq_some e
      have h2 := List.find?_some e
      have h3 : r.1 = q.1 := by simpa using h2
      show (Option.map (·.2) (L.find? fun r => decide (Value.ref r.1 = Value.ref q.1))).getD [] = q.2
      rw [e, uniq r h1 q hq h3]; rfl
  have back : ∀ us : List Value, (∀ v ∈ us, v ∈ L.map fun q => Value.ref q.1) → ∃ L1 : List (Addr × List Key), us = L1.map (fun q => Value.ref q.1) ∧ ∀ q ∈ L1, q ∈ L := by
    intro us
    induction us with
    | nil => intro _; exact ⟨[], rfl, by simp⟩
    | cons v us ih =>
      intro hv
      obtain ⟨q, q1, q2⟩ := List.mem_map.mp (hv v (by simp))
      obtain ⟨L1, e1, e2⟩ := ih fun u hu => hv u (by simp [hu])
      exact ⟨q :: L1, by rw [e1, ← q2]; rfl, fun r hr => by rcases List.mem_cons.mp hr with z | z; rw [z]; exact q1; exact e2 r z⟩
  have len : vs.length = L.length := by rw [pm.length_eq, List.length_map]
  refine wpAny_bind (wpAny_newList ?_ (by rw [sizeLine_eq]; omega))
  have oL : (s1.heap.push (seqObj "list" vs.toArray 0)).get? s1.heap.objs.size = some (seqObj "list" vs.toArray 0) := Heap.get?_push_size _ rfl
  have vt : ∀ v ∈ vs, VT P w (s1.heap.push (seqObj "list" vs.toArray 0)) (f v) v := fun v hv => by
    obtain ⟨q, q1, q2⟩ := List.mem_map.mp (pm.mem_iff.mp hv)
    subst q2
    rw [hf q q1]
    exact VT.keeps ⟨_, rfl, its q q1⟩ fun c o e _ => Heap.get?_push_of_some _ (k1 c o e)
  have fk : ∀ v ∈ vs, ∃ q ∈ L, f v = q.2 := fun v hv => by
    obtain ⟨q, q1, q2⟩ := List.mem_map.mp (pm.mem_iff.mp hv)
    exact ⟨q, q1, by rw [← q2]; exact hf q q1⟩
  refine wpAny_bind (wpAny_holding (wpAny_call_entry slot_list_sort ⟨_, oL, rfl⟩ entry_list_sort (SrtO.list_sort_ord (s := { s1 with heap := s1.heap.push (seqObj "list" vs.toArray 0) }) (swo_k f) oL (by rw [sizeLine_eq]; omega) (fun h2 => ?_) fun out hs hb2 => ⟨_, rfl, ?_⟩) (args_list_sort _)))
  · refine sortable_keys (s := { s1 with heap := s1.heap.push (seqObj "list" vs.toArray 0) }) (b := b) (by omega) vt (fun v hv => ?_) (fun u hu v hv => ?_) fun o e => ?_
    · obtain ⟨q, q1, q2⟩ := fk v hv
      rw [q2]; exact hb q q1
    · obtain ⟨q, q1, q2⟩ := fk u hu
      obtain ⟨r, r1, r2⟩ := fk v hv
      rw [q2, r2]; exact hc q q1 r r1
    · have e' : some o = some (seqObj "list" vs.toArray 0) := e.symm.trans oL
      cases e'
      exact list_no_tup
  · obtain ⟨c, hc2⟩ := sortedHeap_at (vs := vs) (out := out.toArray) oL
    have pm2 := hb2.perm.trans pm
    obtain ⟨L', e', sub⟩ := back out fun v hv => pm2.mem_iff.mp hv
    have ref_inj : ∀ xs : List (Addr × List Key), (∀ q ∈ xs, q ∈ L) → xs.Nodup → (xs.map fun q => Value.ref q.1).Nodup := fun xs hs nd => by
      refine List.pairwise_map.mpr (List.Pairwise.imp_of_mem (fun {q r} hq hr ne z => ?_) nd)
      injection z with z
      exact ne (uniq q (hs q hq) r (hs r hr) z)
    have ndL : L.Nodup := List.Pairwise.of_map (·.2) (fun _ _ ne e => ne (congrArg _ e)) B.nd
    have ndL' : L'.Nodup := by
      have := pm2.nodup_iff.mpr (ref_inj L (fun _ h => h) ndL)
      rw [e'] at this
      exact List.Pairwise.of_map (fun q => Value.ref q.1) (fun _ _ ne e => ne (congrArg (fun q => Value.ref q.1) e)) this
    have pL : L'.Perm L := (List.perm_ext_iff_of_nodup ndL' ndL).mpr fun q => ⟨sub q, fun hq => by
      have := pm2.mem_iff.mpr (List.mem_map.mpr ⟨q, hq, rfl⟩)
      rw [e'] at this
      obtain ⟨r, r1, r2⟩ := List.mem_map.mp this
      injection r2 with r2
      rw [← uniq r (sub r r1) q hq r2]; exact r1⟩
    refine wpAny_pure ⟨_, rfl, fin _ s1.heap.objs.size out.toArray c L' (fun b u e => ?_) g1 o1 hz hc2 e' pL ?_⟩
    · have q := k1 b u e
      show (sortedHeap (s1.heap.push (seqObj "list" vs.toArray 0)) s1.heap.objs.size vs out.toArray).get? b = some u
      rw [sortedHeap_old (Nat.ne_of_lt (Heap.lt_size q)) (by rw [size_push']; exact Nat.lt_succ_of_lt (Heap.lt_size q))]
      exact Heap.get?_push_of_some _ q
    · rw [e'] at hs
      refine List.Pairwise.imp_of_mem (fun {q r} hq hr h => ?_) (List.pairwise_map.mp hs)
      have h' : kLt (f (.ref r.1)) (f (.ref q.1)) = false := h
      rw [hf q (sub q hq), hf r (sub r hr)] at h'
      exact h'
end
end PLs
set_option maxHeartbeats 4000000
/-! PST6: sorted(set(xs)), sorted(xs) of tuples of ints and texts, as mirrors. -/
namespace PLs
open PySem PySem.Spec PyProof.Rows L2
section
variable {P : Program} {w : World}
theorem flat_items {k : List Key} {vs : List Value} (h : ItemsAre (mixKind P w) k vs) : ∀ v ∈ vs, (∃ i t, v = Value.int i t) ∨ ∃ x t, v = Value.str x t := by
  induction h with
  | nil => intro v hv; cases hv
  | @cons k0 v' ks us h1 _ ih =>
    intro v hv
    rcases List.mem_cons.mp hv with e | hv
    · subst e
      rcases keyIs_shape h1 with ⟨i, t, _, rfl⟩ | ⟨x, t, _, rfl⟩
      · exact .inl ⟨i, t, rfl⟩
      · exact .inr ⟨x, t, rfl⟩
    · exact ih v hv
theorem flat_cls {A : Around} {E : Value → Shared → Prop} {s : Shared} {k : List Key} {b : Addr} {Q : Bool → Shared → Prop} (hk : IsT2 P w s.heap k b) (h : Q false s) : wpAny (model P w) A (ofAClassStatement 8 (.ref b)) Q E s := by
  have ty := hk.typeIs
  obtain ⟨o, its, n, ho, _, hd, hi⟩ := hk
  have ei : ∀ n i t, ofAClassStatement n (.int i t) = pure false := fun n i t => by cases n <;> rfl
  have es : ∀ n x t, ofAClassStatement n (.str x t) = pure false := fun n i t => by cases n <;> rfl
  unfold ofAClassStatement
  refine wpAny_bind (wpAny_typeOf ty ?_)
  dsimp only
  have e : (("tuple" : String) == "tuple") = true := by decide
  simp only [e, if_true, Bool.not_true, Bool.false_eq_true, if_false]
  try refine wpAny_bind (wpAny_pure ?_)
  try simp only [Bool.not_true, Bool.false_eq_true, if_false]
  show wpAny _ _ (seqItems? (.ref b) >>= _) _ _ s
  refine wpAny_bind (wpAny_seqItems ho hd ?_)
  dsimp only
  refine wpAny_bind ?_
  show wpAny _ _ (forIn its _ _) _ _ s
  rw [← Array.forIn_toList]
  refine wpAny_forIn_list _ (fun left r s' => s' = s ∧ r.1 = none ∧ ∀ v ∈ left, (∃ i t, v = Value.int i t) ∨ ∃ x t, v = Value.str x t) _ ?_ ?_ _ _ ⟨rfl, rfl, flat_items hi⟩
  · rintro v left r s' ⟨q, hr, all⟩
    subst q
    have more : ∀ u ∈ left, (∃ i t, u = Value.int i t) ∨ ∃ x t, u = Value.str x t := fun u hu => all u (by simp [hu])
    rcases all v (by simp) with ⟨i, t, rfl⟩ | ⟨x, t, rfl⟩
    · rw [ei]
      refine wpAny_bind (wpAny_pure ?_)
      simp only [Bool.false_eq_true, if_false]
      exact wpAny_pure ⟨rfl, rfl, more⟩
    · rw [es]
      refine wpAny_bind (wpAny_pure ?_)
      simp only [Bool.false_eq_true, if_false]
      exact wpAny_pure ⟨rfl, rfl, more⟩
  · rintro ⟨r1, r2⟩ s' ⟨q, hr, _⟩
    subst q
    simp only at hr
    subst hr
    exact wpAny_pure h
theorem flat_byv {A : Around} {E : Value → Shared → Prop} {s : Shared} {k : List Key} {b : Addr} {Q : Bool → Shared → Prop} (hk : IsT2 P w s.heap k b) (h : ∀ c, Q c s) : wpAny (model P w) A (hashByValue 8 (.ref b)) Q E s := by
  have ty := hk.typeIs
  obtain ⟨o, its, n, ho, _, hd, hi⟩ := hk
  have ei : ∀ n i t, hashByValue n (.int i t) = pure true := fun n i t => by cases n <;> rfl
  have es : ∀ n x t, hashByValue n (.str x t) = pure false := fun n i t => by cases n <;> rfl
  unfold hashByValue
  refine wpAny_bind (wpAny_specialOf ty F.slot_tuple_hash.lookup ?_)
  show wpAny _ _ (seqItems? (.ref b) >>= _) _ _ s
  refine wpAny_bind (wpAny_seqItems ho hd ?_)
  refine wpAny_bind ?_
  show wpAny _ _ (forIn its _ _) _ _ s
  rw [← Array.forIn_toList]
  refine wpAny_forIn_list _ (fun left r s' => s' = s ∧ (r.1 = none ∨ r.1 = some false) ∧ ∀ v ∈ left, (∃ i t, v = Value.int i t) ∨ ∃ x t, v = Value.str x t) _ ?_ ?_ _ _ ⟨rfl, .inl rfl, flat_items hi⟩
  · rintro v left r s' ⟨q, hr, all⟩
    subst q
    have more : ∀ u ∈ left, (∃ i t, u = Value.int i t) ∨ ∃ x t, u = Value.str x t := fun u hu => all u (by simp [hu])
    rcases all v (by simp) with ⟨i, t, rfl⟩ | ⟨x, t, rfl⟩
    · rw [ei]
      refine wpAny_bind (wpAny_pure ?_)
      simp only [Bool.not_true, Bool.false_eq_true, if_false]
      exact wpAny_pure ⟨rfl, .inl rfl, more⟩
    · rw [es]
      refine wpAny_bind (wpAny_pure ?_)
      simp only [Bool.not_false, if_true]
      exact wpAny_pure (wpAny_pure (h _))
  · rintro ⟨r1, r2⟩ s' ⟨q, hr, _⟩
    subst q
    simp only at hr
    rcases hr with hr | hr <;> subst hr <;> exact wpAny_pure (h _)
theorem flat_same {h h' : Heap} {k : List Key} {a b : Addr} {o : Obj} {es : Array (Int × Value)} {ep : Nat} {t : SetTable} (hk : IsT2 P w h k b) (ho : h.get? a = some o) (hd : o.data = .set es ep t) (sb : Heap.SameBut a h h') : IsT2 P w h' k b := by
  obtain ⟨o', its, n, ho', hc, hd', hi⟩ := hk
  refine ⟨o', its, n, (sb.2 b fun z => ?_).trans ho', hc, hd', hi⟩
  subst z
  have : o' = o := Option.some.inj (ho'.symm.trans ho)
  rw [this, hd] at hd'
  cases hd'
def flatK (P : Program) (w : World) : SKind P w (List Key) where
  k := tupleKind (mixKind P w)
  same := fun hk ho hd sb => flat_same hk ho hd sb
  keep := fun ⟨o, its, n, ho, r⟩ k => ⟨o, its, n, k _ _ ho, r⟩
  cls := fun hk h => flat_cls hk h
  byv := fun hk h => flat_byv hk h
  roomy := fun h => h
/-- a set of such tuples, as an object -/
def SetO (P : Program) (w : World) (a : Addr) (L : List (Addr × List Key)) : HO := .ext fun h => ∃ es ep t, SetB (flatK P w) h a L es ep t
theorem setO_new {H : Hp} {h : Heap} {a : Addr} {L : List (Addr × List Key)} {es : Array (Int × Value)} {ep : Nat} {t : SetTable} (B : SetB (flatK P w) h a L es ep t) : ObjOk P w H h a (SetO P w a L) := by
  obtain ⟨o, ho, r⟩ := B.ob
  exact ⟨⟨es, ep, t, B⟩, ⟨o, ho⟩, fun h1 h2 ⟨es', ep', t', B'⟩ k => ⟨es', ep', t', B'.up k⟩⟩
end
theorem items_kV {P : Program} {w : World} : ∀ {k : List Key} {us : List Value}, Vals (k.map kV) us → ItemsAre (mixKind P w) k us
  | [], _, .nil => .nil
  | .inl i :: k, _, .cons r t => by
    obtain ⟨tk, rfl⟩ := r
    exact .cons (mixKind_int P w i tk) (items_kV t)
  | .inr x :: k, _, .cons r t => by
    obtain ⟨tk, rfl⟩ := r
    exact .cons (mixKind_str P w x tk) (items_kV t)
theorem refs_up : ∀ {ks : List (Addr × List Key)} {us : List Value}, Vals (ks.map fun p => V.ref p.1) us → us = ks.map fun p => Value.ref p.1
  | [], _, .nil => rfl
  | p :: ks, _, .cons r t => by
    cases r
    rw [refs_up t]; rfl
theorem refs_dn : ∀ ks : List (Addr × List Key), Vals (ks.map fun p => V.ref p.1) (ks.map fun p => Value.ref p.1)
  | [] => .nil
  | p :: ks => .cons rfl (refs_dn ks)
section
variable {X : Cx}
theorem inv_tup {pins : List (Addr × Obj)} {σ : L2.St} {H : Hp} {s : Shared} {b : Addr} {k : List Key} (I : Inv X pins σ H s) (h : SqT X.K H b (k.map kV)) : IsT2 X.prog X.w s.heap k b := by
  obtain ⟨its, r, ⟨o, ho, hc, n, hd⟩, _⟩ := I.tuple h
  exact ⟨o, its.toArray, n, ho, hc, hd, by simpa using items_kV r⟩
/-- set(a list of tuples) -/
def rSetK (K : PySem.W.Frag) (P : Program) (w : World) : List V → Hp → VK → Prop := fun xs H Q => ∃ (l : Addr) (ks : List (Addr × List Key)), xs = [V.ref l] ∧ SqL K H l (ks.map fun p => V.ref p.1) ∧ (∀ p ∈ ks, SqT K H p.1 (p.2.map kV)) ∧ ks.length ≤ 4000 ∧
  ∀ a L, H a = none → (∀ p ∈ L, p ∈ ks) → (∀ p ∈ ks, p.2 ∈ L.map (·.2)) → (L.map (·.2)).Nodup → Q (.ref a) (upd H a (SetO P w a L))
theorem cr_setK (hc : X.calm = true) (hu : X.A.units + 64 < cLine) : CallR X (.type "set") (rSetK X.K X.prog X.w) := by
  intro pins s σ H xs us Q I r h
  obtain ⟨l, ks, rfl, hl, hk, hf, q⟩ := h
  rw [Vals.ref1 r]
  obtain ⟨its, rv, pl, hz⟩ := I.list hl
  refine set_of_list (S := flatK X.prog X.w) ks (I.ok.hd hc) pl.isList (by simpa using refs_up rv) (fun p hp => inv_tup I (hk p hp)) hf (by omega) fun h' tk L es ep t B g k => ?_
  refine ⟨.ref s.heap.objs.size, upd H s.heap.objs.size (SetO X.prog X.w s.heap.objs.size L), I.laid (t' := tk) k (Nat.le_refl _) (setO_new B), rfl, q _ L (I.hok.fresh (Nat.le_refl _)) (fun p hp => List.mem_of_mem_take (g.of p hp)) (fun p hp => g.to p ?_) B.nd⟩
  rw [List.take_length]; exact hp
/-- sorted(such a set) -/
def rSortedK (K : PySem.W.Frag) (P : Program) (w : World) : List V → Hp → VK → Prop := fun vs H Q => ∃ (a : Addr) (L : List (Addr × List Key)) (b : Bool), vs = [V.ref a] ∧ H a = some (SetO P w a L) ∧ (∀ p ∈ L, SqT K H p.1 (p.2.map kV)) ∧
  (∀ p ∈ L, Fst b p.2) ∧ (∀ p ∈ L, ∀ q ∈ L, CmpT p.2 q.2) ∧
  ∀ (L' : List (Addr × List Key)) (p : Addr), L'.Perm L → L'.Pairwise (fun q r => kLt r.2 q.2 = false) → H p = none → Q (.ref p) (upd H p (.lst (L'.map fun q => V.ref q.1)))
theorem cr_sortedK (hc : X.calm = true) : CallR X (.builtin "sorted") (rSortedK X.K X.prog X.w) := by
  intro pins s σ H vs us Q I r h
  obtain ⟨a, L, b, rfl, ha, hk, hb, hcm, q⟩ := h
  obtain ⟨es, ep, t, B⟩ : ∃ es ep t, SetB (flatK X.prog X.w) s.heap a L es ep t := (I.hok a _ ha).1
  have few := B.few
  rw [Vals.ref1 r]
  refine sorted_set (S := flatK X.prog X.w) rfl B (fun p hp => inv_tup I (hk p hp)) (I.ok.hd hc) hb hcm fun s' p out c L' k g o hp hg hout pm pw => ?_
  have hlen : (L'.map fun q => V.ref q.1).length ≤ sizeLine := by rw [List.length_map, sizeLine_eq, pm.length_eq]; omega
  have hn : H p = none := I.hok.fresh hp
  have J : Inv X pins σ (upd H p (.lst (L'.map fun q => V.ref q.1))) { s with heap := s'.heap, gens := s'.gens, drawn := s'.drawn, toks := s'.toks } :=
    I.call (ch := []) (Un.laid k hp hn) (I.hok.laid k hp ⟨hlen, out.toList, c, by rw [hout]; exact refs_dn L', hg⟩) (by rw [g]; exact I.bare) (fun _ z => nomatch z)
  have e : s' = { s with heap := s'.heap, gens := s'.gens, drawn := s'.drawn, toks := s'.toks } := by
    cases s'; cases s; cases o; rfl
  rw [e]
  exact ⟨.ref p, _, J, rfl, q L' p pm pw hn⟩
/-- sorted(a list of such) -/
def rSortedLK (K : PySem.W.Frag) : List V → Hp → VK → Prop := fun vs H Q => ∃ (l : Addr) (L : List (Addr × List Key)) (b : Bool), vs = [V.ref l] ∧ SqL K H l (L.map fun p => V.ref p.1) ∧ (∀ p ∈ L, SqT K H p.1 (p.2.map kV)) ∧
  (∀ p ∈ L, Fst b p.2) ∧ (∀ p ∈ L, ∀ q ∈ L, CmpT p.2 q.2) ∧
  ∀ (L' : List (Addr × List Key)) (p : Addr), (∀ q ∈ L', q ∈ L) → (L'.map (·.2)).Perm (L.map (·.2)) → (L'.map (·.2)).Pairwise (fun q r => kLt r q = false) → H p = none → Q (.ref p) (upd H p (.lst (L'.map fun q => V.ref q.1)))
theorem cr_sortedLK : CallR X (.builtin "sorted") (rSortedLK X.K) := by
  intro pins s σ H vs us Q I r h
  obtain ⟨l, L, b, rfl, hl, hk, hb, hcm, q⟩ := h
  rw [Vals.ref1 r]
  obtain ⟨its, rv, pl, hz⟩ := I.list hl
  have hits := refs_up rv
  have uniq : ∀ p ∈ L, ∀ r ∈ L, p.1 = r.1 → p.2 = r.2 := fun p hp r hr e => by
    have a1 := inv_tup I (hk p hp)
    have a2 := inv_tup I (hk r hr)
    rw [e] at a1
    exact a1.inj a2
  obtain ⟨f, hf⟩ : ∃ f : Value → List Key, ∀ p ∈ L, f (.ref p.1) = p.2 := by
    refine ⟨fun v => ((L.find? fun q => decide (Value.ref q.1 = v)).map (·.2)).getD [], fun p hp => ?_⟩
    cases e : L.find? fun r => decide (Value.ref r.1 = Value.ref p.1) with
    | none => have := List.find?_eq_none.mp e p hp; simp at this
    | some r =>
      have h2 := List.find?_some e
      have h3 : r.1 = p.1 := by simpa using h2
      show (Option.map (·.2) (L.find? fun r => decide (Value.ref r.1 = Value.ref p.1))).getD [] = p.2
      rw [e]
      exact uniq r (List.mem_of_find?_eq_some e) p hp h3
  have mem : ∀ v ∈ its, ∃ p ∈ L, v = Value.ref p.1 := fun v hv => by
    rw [hits] at hv
    obtain ⟨p, p1, p2⟩ := List.mem_map.mp hv
    exact ⟨p, p1, p2.symm⟩
  refine sorted_list (f := f) (b := b) pl.isList (by rw [← rv.length]; exact hz) (fun v hv => ?_) (fun v hv => ?_) (fun u hu v hv => ?_) fun h' d out pm pw kp hd hn => ?_
  · obtain ⟨p, p1, rfl⟩ := mem v hv
    rw [hf p p1]
    exact ⟨p.1, rfl, inv_tup I (hk p p1)⟩
  · obtain ⟨p, p1, rfl⟩ := mem v hv
    rw [hf p p1]; exact hb p p1
  · obtain ⟨p, p1, rfl⟩ := mem u hu
    obtain ⟨p', q1, rfl⟩ := mem v hv
    rw [hf p p1, hf p' q1]; exact hcm p p1 p' q1
  · have back : ∀ us : List Value, (∀ v ∈ us, v ∈ its) → ∃ L1 : List (Addr × List Key), us = L1.map (fun q => Value.ref q.1) ∧ (∀ q ∈ L1, q ∈ L) := by
      intro us
      induction us with
      | nil => intro _; exact ⟨[], rfl, by simp⟩
      | cons v us ih =>
        intro hv
        obtain ⟨p, p1, p2⟩ := mem v (hv v (by simp))
        obtain ⟨L1, e1, e2⟩ := ih fun u hu => hv u (by simp [hu])
        exact ⟨p :: L1, by rw [e1, p2]; rfl, fun r hr => by rcases List.mem_cons.mp hr with z | z; rw [z]; exact p1; exact e2 r z⟩
    obtain ⟨L', e', sub⟩ := back out fun v hv => pm.mem_iff.mp hv
    have keys : ∀ M : List (Addr × List Key), (∀ q ∈ M, q ∈ L) → (M.map fun q => Value.ref q.1).map f = M.map (·.2) := fun M hM => by
      rw [List.map_map]
      exact List.map_congr_left fun q hq => hf q (hM q hq)
    have pmk : (L'.map (·.2)).Perm (L.map (·.2)) := by
      have := pm.map f
      rw [e', hits, keys L' sub, keys L fun _ h => h] at this
      exact this
    have pwk : (L'.map (·.2)).Pairwise (fun q r => kLt r q = false) := by
      rw [← keys L' sub, ← e']
      exact List.pairwise_map.mpr pw
    obtain ⟨n, hn⟩ := hn
    have hlen : (L'.map fun q => V.ref q.1).length ≤ sizeLine := by
      have := pmk.length_eq
      simp only [List.length_map] at this
      rw [List.length_map, this]
      simpa using hz
    refine ⟨.ref d, upd H d (.lst (L'.map fun q => V.ref q.1)), I.laid (t' := s.toks) kp hd ⟨hlen, out, n, by rw [e']; exact refs_dn L', hn⟩, rfl, q L' d sub pmk pwk (I.hok.fresh hd)⟩
end
end PLs
set_option maxHeartbeats 4000000
/-! PST7: sorted and set as mirrors. -/
namespace PL
open PySem PySem.Spec PyProof.Rows L2 PLs
abbrev TK := List Key
def kP : Key → PV
  | .inl i => .int i
  | .inr x => .str x
def tupT (k : TK) : PV := .tup (k.map kP)
theorem keyP_eq {p : PV} {k : Key} (h : keyP p = some k) : p = kP k := by
  cases p <;> simp [keyP] at h <;> subst h <;> rfl
@[simp] theorem keyP_kP (k : Key) : keyP (kP k) = some k := by cases k <;> rfl
theorem keysP_eq : ∀ {xs : List PV} {ks : TK}, keysP xs = some ks → xs = ks.map kP
  | [], ks, h => by cases h; rfl
  | x :: xs, ks, h => by
    unfold keysP at h
    cases q : keyP x with
    | none => rw [q] at h; cases h
    | some k =>
      cases q2 : keysP xs with
      | none => rw [q, q2] at h; cases h
      | some r =>
        rw [q, q2] at h
        cases h
        rw [keyP_eq q, keysP_eq q2]; rfl
@[simp] theorem keysP_kP : ∀ ks : TK, keysP (ks.map kP) = some ks
  | [] => rfl
  | k :: ks => by simp [keysP, keysP_kP ks]
/-- tuples' keys -/
def tkeyP : PV → Option TK
  | .tup xs => keysP xs
  | _ => none
def tkeysP : List PV → Option (List TK)
  | [] => some []
  | x :: r => (tkeyP x).bind fun k => (tkeysP r).map fun ks => k :: ks
theorem tkeyP_eq {p : PV} {k : TK} (h : tkeyP p = some k) : p = tupT k := by
  cases p <;> simp [tkeyP] at h
  rw [keysP_eq h]; rfl
@[simp] theorem tkeyP_tupT (k : TK) : tkeyP (tupT k) = some k := by simp [tkeyP, tupT]
theorem tkeysP_eq : ∀ {xs : List PV} {ks : List TK}, tkeysP xs = some ks → xs = ks.map tupT
  | [], ks, h => by cases h; rfl
  | x :: xs, ks, h => by
    unfold tkeysP at h
    cases q : tkeyP x with
    | none => rw [q] at h; cases h
    | some k =>
      cases q2 : tkeysP xs with
      | none => rw [q, q2] at h; cases h
      | some r =>
        rw [q, q2] at h
        cases h
        rw [tkeyP_eq q, tkeysP_eq q2]; rfl
@[simp] theorem tkeysP_tupT : ∀ ks : List TK, tkeysP (ks.map tupT) = some ks
  | [] => rfl
  | k :: ks => by simp [tkeysP, tkeysP_tupT ks]
/-! ### what is sorted -/
def SrtOk (ks : List TK) : Prop := (∃ b, ∀ k ∈ ks, Fst b k) ∧ ∀ k ∈ ks, ∀ k' ∈ ks, CmpT k k'
def Asc (ks : List TK) : Prop := ks.Pairwise fun a b => kLt b a = false
noncomputable def sortT (ks : List TK) : List TK := ks.mergeSort fun a b => !kLt b a
open Classical in
noncomputable def dedupT : List TK → List TK
  | [] => []
  | k :: r => if k ∈ r then dedupT r else k :: dedupT r
theorem mem_dedup {x : TK} : ∀ {ks : List TK}, x ∈ dedupT ks ↔ x ∈ ks
  | [] => Iff.rfl
  | k :: r => by
    unfold dedupT
    split
    · rename_i h
      rw [mem_dedup (ks := r)]
      constructor
      · intro q; exact List.mem_cons_of_mem _ q
      · intro q
        rcases List.mem_cons.mp q with e | e
        · rw [e]; exact h
        · exact e
    · rw [List.mem_cons, List.mem_cons, mem_dedup (ks := r)]
theorem nodup_dedup : ∀ ks : List TK, (dedupT ks).Nodup
  | [] => List.nodup_nil
  | k :: r => by
    unfold dedupT
    split
    · exact nodup_dedup r
    · rename_i h
      exact List.nodup_cons.mpr ⟨fun q => h (mem_dedup.mp q), nodup_dedup r⟩
theorem sortT_perm (ks : List TK) : (sortT ks).Perm ks := List.mergeSort_perm ..
theorem sortT_asc (ks : List TK) : Asc (sortT ks) := by
  have := List.pairwise_mergeSort (le := fun a b : TK => !kLt b a) (fun a b c h1 h2 => by
    simp only [Bool.not_eq_true', Bool.not_eq_eq_eq_not, Bool.not_true] at h1 h2 ⊢
    exact kLt_neg h1 h2) (fun a b => by
    cases e : kLt b a with
    | false => simp
    | true => simp [kLt_asym e]) ks
  exact this.imp fun h => by simpa using h
theorem asc_uniq : ∀ {a b : List TK}, Asc a → Asc b → a.Perm b → a = b
  | [], b, _, _, h => (List.Perm.eq_nil h.symm).symm
  | x :: a, [], _, _, h => by have := h.length_eq; simp at this
  | x :: a, y :: b, ha, hb, h => by
    have ha' := List.pairwise_cons.mp ha
    have hb' := List.pairwise_cons.mp hb
    have e : x = y := by
      have hx := h.mem_iff.mp (List.mem_cons_self (a := x) (l := a))
      have hy := h.mem_iff.mpr (List.mem_cons_self (a := y) (l := b))
      rcases List.mem_cons.mp hx with q | q
      · exact q
      · rcases List.mem_cons.mp hy with z | z
        · exact z.symm
        · exact kLt_tot (hb'.1 x q) (ha'.1 y z)
    subst e
    rw [asc_uniq ha'.2 hb'.2 h.cons_inv]
theorem sortT_uniq {a ks : List TK} (ha : Asc a) (h : a.Perm ks) : a = sortT ks := asc_uniq ha (sortT_asc ks) (h.trans (sortT_perm ks).symm)
theorem set_uniq {a ks : List TK} (ha : Asc a) (nd : a.Nodup) (h : ∀ x, x ∈ a ↔ x ∈ ks) : a = sortT (dedupT ks) :=
  sortT_uniq ha ((List.perm_ext_iff_of_nodup nd (nodup_dedup ks)).mpr fun x => by rw [h, mem_dedup])
theorem mem_sortset {x : TK} {ks : List TK} : x ∈ sortT (dedupT ks) ↔ x ∈ ks := by rw [(sortT_perm _).mem_iff, mem_dedup]
theorem nodup_sortset (ks : List TK) : (sortT (dedupT ks)).Nodup := (sortT_perm _).nodup_iff.mpr (nodup_dedup ks)
/-! ### the mirrors -/
open Classical in
noncomputable def sortSetO : PV → Sto → Out PV := fun p S => match p with
  | .loc l => (match S[l]? with
    | some (.lst xs) => (match tkeysP xs with
      | some ks => if ks.length ≤ 4000 ∧ SrtOk ks then .ok (.loc S.length) (S ++ [.lst ((sortT (dedupT ks)).map tupT)]) else .bad
      | none => .bad)
    | _ => .bad)
  | _ => .bad
noncomputable def sortSetM (m : EM PV) : EM PV := fun τ S => bnd (m τ S) sortSetO
open Classical in
noncomputable def sortLO : PV → Sto → Out PV := fun p S => match p with
  | .loc l => (match S[l]? with
    | some (.lst xs) => (match tkeysP xs with
      | some ks => if SrtOk ks then .ok (.loc S.length) (S ++ [.lst ((sortT ks).map tupT)]) else .bad
      | none => .bad)
    | _ => .bad)
  | _ => .bad
noncomputable def sortLM (m : EM PV) : EM PV := fun τ S => bnd (m τ S) sortLO
section
variable {K : PySem.W.Frag} {ι : List Addr} {H : Hp}
theorem rpl_kP : ∀ {k : TK} {vs : List V}, RpL K ι H (k.map kP) vs → vs = k.map kV
  | [], vs, h => h
  | .inl i :: k, vs, h => by
    obtain ⟨v, r, rfl, h1, h2⟩ := h
    rw [rpl_kP h2, show v = V.int i from h1]; rfl
  | .inr x :: k, vs, h => by
    obtain ⟨v, r, rfl, h1, h2⟩ := h
    rw [rpl_kP h2, show v = V.str x from h1]; rfl
theorem rpl_of_kV : ∀ k : TK, RpL K ι H (k.map kP) (k.map kV)
  | [] => rfl
  | .inl i :: k => ⟨.int i, _, rfl, rfl, rpl_of_kV k⟩
  | .inr x :: k => ⟨.str x, _, rfl, rfl, rpl_of_kV k⟩
theorem rpl_tupT : ∀ {ks : List TK} {vs : List V}, RpL K ι H (ks.map tupT) vs → ∃ A : List (Addr × TK), vs = A.map (fun p => V.ref p.1) ∧ A.map (·.2) = ks ∧ ∀ p ∈ A, FzT K H p.1 (p.2.map kV)
  | [], vs, h => ⟨[], h, rfl, by simp⟩
  | k :: ks, vs, h => by
    obtain ⟨v, r, rfl, ⟨a, us, rfl, h1, h2⟩, h3⟩ := h
    obtain ⟨A, e1, e2, e3⟩ := rpl_tupT h3
    have e4 := rpl_kP h2
    subst e4
    exact ⟨(a, k) :: A, by rw [e1]; rfl, by rw [← e2]; rfl, fun p hp => by rcases List.mem_cons.mp hp with z | z; rw [z]; exact h1; exact e3 p z⟩
theorem rpl_of_tupT : ∀ {A : List (Addr × TK)}, (∀ p ∈ A, FzT K H p.1 (p.2.map kV)) → RpL K ι H ((A.map (·.2)).map tupT) (A.map fun p => V.ref p.1)
  | [], _ => rfl
  | p :: A, h => ⟨.ref p.1, _, rfl, ⟨p.1, _, rfl, h p (by simp), rpl_of_kV p.2⟩, rpl_of_tupT fun q hq => h q (by simp [hq])⟩
end
section
variable {X : Cx} {W : WX} {a : Expr} {ma : EM PV} {p p2 q pos : Pos}
theorem re_sortSet (hc : X.calm = true) (hu : X.A.units + 64 < cLine) (hg : Gl X "sorted") (hm : X.mg "sorted" = none) (hg2 : Gl X "set") (hm2 : X.mg "set" = none) (ha : RE X W a ma)
    (na : starEach [a] X.env = (false, eval a X.env) :: starEach [] X.env := by rfl)
    (nb : starEach [.Call (.Name "set" p2) [a] [] q] X.env = (false, eval (.Call (.Name "set" p2) [a] [] q) X.env) :: starEach [] X.env := by rfl) : RE X W (.Call (.Name "sorted" p) [.Call (.Name "set" p2) [a] [] q] [] pos) (sortSetM ma) := by
  refine ⟨pe_weak (pe_callB (cr_sortedK hc) hg hm (by decide +kernel) (pa_cons (pe_callTy (cr_setK hc hu) hg2 hm2 (by decide +kernel) (pa_cons ha.pe pa_nil na) (he := na)) pa_nil nb) (he := nb)) fun σ H Q ⟨ι, τ, S, r, ρ, pk⟩ => ⟨ι, τ, S, r, ρ, pk.next.mono fun x H1 ⟨v, ι1, S1, e1, r1, q1, pk1⟩ => ?_⟩⟩
  unfold sortSetO at pk1
  split at pk1
  · rename_i l
    split at pk1
    · rename_i xs hl
      split at pk1
      · rename_i ks hks
        split at pk1
        · rename_i ok
          obtain ⟨few, ⟨b, hb⟩, hcm⟩ := ok
          obtain ⟨ad, rfl, hι⟩ := q1
          obtain ⟨vs, hv, rl⟩ := r1.obj l ad _ hι hl
          rw [tkeysP_eq hks] at rl
          obtain ⟨A, rfl, e2, fz⟩ := rpl_tupT rl
          have kof : ∀ p ∈ A, p.2 ∈ ks := fun p hp => by rw [← e2]; exact List.mem_map.mpr ⟨p, hp, rfl⟩
          refine ⟨ad, A, rfl, .of hv, fun p hp => (fz p hp).seq, by rw [← e2] at few; simpa using few, fun sa L hsa sub all nd => ?_⟩
          obtain ⟨E2, r2⟩ := r1.tup (ho := SetO X.prog X.w sa L) hsa
          have fz2 : ∀ p ∈ L, FzT X.K (upd H1 sa (SetO X.prog X.w sa L)) p.1 (p.2.map kV) := fun p hp => (fz p (sub p hp)).mono E2
          refine ⟨sa, L, b, rfl, upd_same, fun p hp => (fz2 p hp).seq, fun p hp => hb _ (kof p (sub p hp)), fun p hp q hq => hcm _ (kof p (sub p hp)) _ (kof q (sub q hq)), fun L' pa pm pw hpa => ?_⟩
          have fz3 : ∀ p ∈ L', FzT X.K (upd H1 sa (SetO X.prog X.w sa L)) p.1 (p.2.map kV) := fun p hp => fz2 p (pm.mem_iff.mp hp)
          obtain ⟨E3, r3, q3⟩ := r2.new_lst hpa (rpl_of_tupT fz3)
          have e4 : L'.map (·.2) = sortT (dedupT ks) := by
            refine set_uniq (List.pairwise_map.mpr pw) ((pm.map _).nodup_iff.mpr nd) fun x => ?_
            rw [(pm.map (·.2)).mem_iff]
            constructor
            · intro hx
              obtain ⟨p, p1, p2⟩ := List.mem_map.mp hx
              rw [← p2]; exact kof p (sub p p1)
            · intro hx
              rw [← e2] at hx
              obtain ⟨p, p1, p2⟩ := List.mem_map.mp hx
              rw [← p2]; exact all p p1
          rw [e4] at r3
          exact pk1 _ _ _ (E2.trans E3) r3 q3
        · exact pk1.elim
      · exact pk1.elim
    · exact pk1.elim
  · exact pk1.elim
theorem re_sortL (hg : Gl X "sorted") (hm : X.mg "sorted" = none) (ha : RE X W a ma)
    (na : starEach [a] X.env = (false, eval a X.env) :: starEach [] X.env := by rfl) : RE X W (.Call (.Name "sorted" p) [a] [] pos) (sortLM ma) := by
  refine ⟨pe_weak (pe_callB cr_sortedLK hg hm (by decide +kernel) (pa_cons ha.pe pa_nil na) (he := na)) fun σ H Q ⟨ι, τ, S, r, ρ, pk⟩ => ⟨ι, τ, S, r, ρ, pk.next.mono fun x H1 ⟨v, ι1, S1, e1, r1, q1, pk1⟩ => ?_⟩⟩
  unfold sortLO at pk1
  split at pk1
  · rename_i l
    split at pk1
    · rename_i xs hl
      split at pk1
      · rename_i ks hks
        split at pk1
        · rename_i ok
          obtain ⟨⟨b, hb⟩, hcm⟩ := ok
          obtain ⟨ad, rfl, hι⟩ := q1
          obtain ⟨vs, hv, rl⟩ := r1.obj l ad _ hι hl
          rw [tkeysP_eq hks] at rl
          obtain ⟨A, rfl, e2, fz⟩ := rpl_tupT rl
          have kof : ∀ p ∈ A, p.2 ∈ ks := fun p hp => by rw [← e2]; exact List.mem_map.mpr ⟨p, hp, rfl⟩
          refine ⟨ad, A, b, rfl, .of hv, fun p hp => (fz p hp).seq, fun p hp => hb _ (kof p hp), fun p hp q hq => hcm _ (kof p hp) _ (kof q hq), fun L' pa sub pm pw hpa => ?_⟩
          obtain ⟨E3, r3, q3⟩ := r1.new_lst hpa (rpl_of_tupT fun p hp => fz p (sub p hp))
          have e4 : L'.map (·.2) = sortT ks := sortT_uniq pw (by rw [← e2]; exact pm)
          rw [e4] at r3
          exact pk1 _ _ _ E3 r3 q3
        · exact pk1.elim
      · exact pk1.elim
    · exact pk1.elim
  · exact pk1.elim
end
/-! ### reasoning -/
section
variable {P : PV → Sto → Prop} {R : Str → PV → Sto → Prop} {S : Sto} {l : Nat} {ks : List TK}
@[simp] theorem e_sortSetM (m : EM PV) (τ : En) : sortSetM m τ S = bnd (m τ S) sortSetO := rfl
@[simp] theorem e_sortLM (m : EM PV) (τ : En) : sortLM m τ S = bnd (m τ S) sortLO := rfl
theorem sortSet_wp (h : S[l]? = some (.lst (ks.map tupT))) (few : ks.length ≤ 4000) (ok : SrtOk ks) (k : ∀ n S', S'[n]? = some (.lst ((sortT (dedupT ks)).map tupT)) → Keep [] S S' → S.length ≤ n → P (.loc n) S') : wp (sortSetO (.loc l) S) P R := by
  simp only [sortSetO, h, tkeysP_tupT, few, ok, and_self, if_true, wp_ok]
  exact alloc_wp k
theorem sortL_wp (h : S[l]? = some (.lst (ks.map tupT))) (ok : SrtOk ks) (k : ∀ n S', S'[n]? = some (.lst ((sortT ks).map tupT)) → Keep [] S S' → S.length ≤ n → P (.loc n) S') : wp (sortLO (.loc l) S) P R := by
  simp only [sortLO, h, tkeysP_tupT, ok, if_true, wp_ok]
  exact alloc_wp k
end
end PL
set_option maxHeartbeats 4000000
/-! PEN: enumerate and zip of lists and tuples. -/
namespace PLz
open PySem PySem.Spec PyProof.Rows L2
/-- a list (k false) or a tuple (k true) -/
def SqB (K : PySem.W.Frag) (H : Hp) (k : Bool) (a : Addr) (xs : List V) : Prop := match k with
  | true => SqT K H a xs
  | false => SqL K H a xs
def RawB (k : Bool) (h : Heap) (a : Addr) (its : Array Value) : Prop := match k with
  | true => h.IsTuple a its
  | false => h.IsList a its
def IterB (k : Bool) (h : Heap) (it a : Addr) (i : Nat) : Prop := match k with
  | true => h.IsTupleIter it a i
  | false => h.IsListIter it a i
def itObj (k : Bool) (a : Addr) : Obj := match k with
  | true => { cls := .type "tuple_iterator", data := .fields #[.ref a, .int 0 0] }
  | false => { cls := .type "list_iterator", data := .fields #[.ref a, .int 0 0] }
theorem IterB.ob {k : Bool} {h : Heap} {it a : Addr} {i : Nat} (x : IterB k h it a i) : ∃ o, h.get? it = some o ∧ ∀ v, o.data ≠ .cell v := by
  cases k <;> obtain ⟨o, ho, _, hd⟩ := x <;> exact ⟨o, ho, fun v q => by rw [hd] at q; cases q⟩
theorem IterB.to {k : Bool} {h h' : Heap} {it a : Addr} {i : Nat} (x : IterB k h it a i) (e : ∀ o, h.get? it = some o → h'.get? it = some o) : IterB k h' it a i := by
  cases k <;> obtain ⟨o, ho, r⟩ := x <;> exact ⟨o, e o ho, r⟩
theorem drawsB {prog : Program} {w : World} {A : Around} (k : Bool) (hh : A.handled = none) (it a : Addr) (hne : a ≠ it) (its : Array Value) :
    Draws prog w A it [it, a] its.size (fun i v => its[i]? = some v) (fun i h => IterB k h it a i ∧ RawB k h a its) := by
  cases k
  · exact Draws.list hh it a hne its
  · exact Draws.tuple hh it a hne its
theorem RawB.to {k : Bool} {h h' : Heap} {a : Addr} {its : Array Value} (x : RawB k h a its) (e : ∀ o, h.get? a = some o → h'.get? a = some o) : RawB k h' a its := by
  cases k <;> obtain ⟨o, ho, r⟩ := x <;> exact ⟨o, e o ho, r⟩
/-- at or past the end -/
theorem drawsLate {prog : Program} {w : World} {A : Around} (k : Bool) (hh : A.handled = none) (it a : Addr) (its : Array Value) (n : Nat) (hn : its.size ≤ n) :
    Draws prog w A it [it, a] n (fun _ _ => False) (fun i h => i = n ∧ IterB k h it a i ∧ RawB k h a its) where
  live := fun i h ⟨_, hi, _⟩ => let ⟨o, ho, _⟩ := hi.ob; ⟨o, ho⟩
  frame := fun i h h' ⟨e, hi, hr⟩ q => ⟨e, hi.to fun o z => q it (by simp) o z, hr.to fun o z => q a (by simp) o z⟩
  item := fun i s Q E hlt ⟨e, _⟩ _ => by omega
  done := fun s Q E ⟨_, h1, h2⟩ hE => by
    cases k
    · exact wpAny_nextOf_list_end hh h1 h2 (by simp; omega) hE
    · exact wpAny_nextOf_tuple_end hh h1 h2 (by simp; omega) hE
/-- i turns may have been made of something of n -/
theorem drawsAt {prog : Program} {w : World} {A : Around} (k : Bool) (hh : A.handled = none) (it a : Addr) (hne : a ≠ it) (its : Array Value) (i : Nat) :
    ∃ n P St, Draws prog w A it [it, a] n P St ∧ (∀ h, IterB k h it a i → RawB k h a its → St i h) ∧ i ≤ n ∧ (its.size ≤ i → i = n) := by
  rcases Nat.lt_or_ge i its.size with c | c
  · exact ⟨_, _, _, drawsB k hh it a hne its, fun h h1 h2 => ⟨h1, h2⟩, Nat.le_of_lt c, fun z => by omega⟩
  · exact ⟨i, _, _, drawsLate k hh it a its i c, fun h h1 h2 => ⟨rfl, h1, h2⟩, Nat.le_refl _, fun _ => rfl⟩
theorem beginsB (k : Bool) (a : Addr) (its : Array Value) : Begins (.ref a) (itObj k a) fun h => RawB k h a its := by
  cases k
  · exact begins_list a its
  · exact begins_tuple a its
theorem itObj_iter {k : Bool} {h : Heap} {it a : Addr} (e : h.get? it = some (itObj k a)) : IterB k h it a 0 := by
  cases k <;> exact ⟨_, e, rfl, rfl⟩
section
variable {X : Cx} {pins : List (Addr × Obj)} {s : Shared} {σ : L2.St} {H : Hp}
theorem inv_seq (I : Inv X pins σ H s) {k : Bool} {a : Addr} {xs : List V} (h : SqB X.K H k a xs) : ∃ its : List Value, Vals xs its ∧ RawB k s.heap a its.toArray := by
  cases k
  · obtain ⟨its, r, p, _⟩ := I.list h
    exact ⟨its, r, p.isList⟩
  · obtain ⟨its, r, p, _⟩ := I.tuple h
    exact ⟨its, r, p⟩
theorem vals_fun : ∀ {xs ys : List V} {us : List Value}, Vals xs us → Vals ys us → xs = ys
  | _, _, _, .nil, h => by cases h; rfl
  | _, _, _, .cons r t, h => by
    cases h with
    | cons r' t' => rw [vals_fun t t', RelV.inj r r']
theorem seq_inj (I : Inv X pins σ H s) {k : Bool} {a : Addr} {xs ys : List V} (h : SqB X.K H k a xs) (h' : SqB X.K H k a ys) : xs = ys := by
  cases k
  · exact I.list_inj h h'
  · obtain ⟨its, r, ⟨o, ho, _, n, hd⟩, _⟩ := I.tuple h
    obtain ⟨its', r', ⟨o', ho', _, n', hd'⟩, _⟩ := I.tuple h'
    have e : o = o' := Option.some.inj (ho.symm.trans ho')
    subst e
    rw [hd] at hd'
    injection hd' with e1 _
    have e2 : its = its' := by simpa using congrArg Array.toList e1
    subst e2
    exact vals_fun r r'
end
/-! ### enumerate -/
def IteB (K : PySem.W.Frag) (k : Bool) (a : Addr) : It :=
  ⟨fun i H => ∃ (xs : List V) (x : V), SqB K H k a xs ∧ xs[i]? = some x, fun i H v H' => ∃ T x o, v = .ref T ∧ H T = none ∧ o.dict = none ∧ H' = upd H T (.frz o (.tup [.int (i : Nat), x])) ∧ ∀ xs, SqB K H k a xs → xs[i]? = some x, fun i H => ∃ xs : List V, SqB K H k a xs ∧ xs.length ≤ i⟩
theorem turn_enumB {P : Program} {w : World} {K : PySem.W.Frag} {elts : List Expr} {kk : Nat} {tpos : Pos} (k : Bool) (a e it : Addr) (hea : e ≠ a) (hia : a ≠ it) :
    Turn P w K (.Tuple elts kk tpos) (IteB K k a) [e, it] e (fun i h => (∃ old, IsEnum h e it ((i : Nat) : Int) old) ∧ IterB k h it a i ∧ e ≠ it) where
  mem := by simp
  obj := fun i h ⟨⟨old, he⟩, hi, _⟩ b hb => by
    rcases List.mem_cons.mp hb with z | z
    · rw [z]; exact ⟨_, he, fun v q => nomatch q⟩
    · rw [List.mem_singleton.mp z]; exact hi.ob
  keep := fun i h h' ⟨⟨old, he⟩, hi, hne⟩ q => ⟨⟨old, q e (by simp) _ he⟩, hi.to fun o z => q it (by simp) o z, hne⟩
  item := by
    intro X hP hw hK hc i pins s σ H E I hf st hg
    subst hP hw hK
    obtain ⟨⟨old, he⟩, hit, hne⟩ := st
    obtain ⟨xs, x, hq, hx⟩ := hg
    obtain ⟨its, rv, raw⟩ := inv_seq I hq
    obtain ⟨u, hu, ru⟩ := rv.get hx
    have hel : e < s.heap.objs.size := Heap.lt_size he
    have hil : it < s.heap.objs.size := by obtain ⟨o, ho, _⟩ := hit.ob; exact Heap.lt_size ho
    have hlt : i < its.toArray.size := by
      have := (List.getElem?_eq_some_iff.mp hu).1
      simpa using this
    refine wpAny_pyNext_enum_itemC (drawsB (A := X.A.in1) k (show X.A.in1.handled = none by simp [I.ok.hd hc]) it a hia its.toArray) he ⟨hit, raw⟩ hlt hne (by simp only [List.mem_cons, List.mem_singleton, List.not_mem_nil, or_false, not_or]; exact ⟨hne, hea⟩) fun y h' tk hy ho st' hT hsz hk => ?_
    have ey : y = u := by
      have h1 : its[i]? = some y := by simpa using hy
      rw [hu] at h1; exact (Option.some.inj h1).symm
    subst ey
    refine ⟨_, rfl, wpAny_letOwnedTupleGo_enum (s := { s with heap := h', toks := tk + 1 }) ho fun h'' he' sb => ?_⟩
    have hT2 : h''.get? s.heap.objs.size = some { cls := .type "tuple", data := .seq #[.int i tk, y] } := (sb.2 _ (Nat.ne_of_gt hel)).trans hT
    generalize hob : ({ cls := .type "tuple", data := .seq #[.int i tk, y] } : Obj) = ob at hT2
    have new : ObjOk X.prog X.w (upd H s.heap.objs.size (.frz ob (.tup [.int (i : Nat), x]))) h'' s.heap.objs.size (.frz ob (.tup [.int (i : Nat), x])) :=
      ⟨hT2, by show 2 ≤ sizeLine; decide, [.int i tk, y], .cons ⟨_, rfl⟩ (.cons ru .nil), ⟨_, hT2, by rw [← hob], _, by rw [← hob]⟩⟩
    have I1 : Inv X pins σ (upd H s.heap.objs.size (.frz ob (.tup [.int (i : Nat), x]))) { s with heap := h'', toks := tk + 1 } :=
      I.turnedNew (ch := [e, it]) (fun b o hb q => (sb.2 b (fun z => hb (by simp [z]))).trans (hk b o (fun z => hb (by simp [z])) (fun z => hb (by simp [z])) q)) hf (Nat.le_refl _) new
    refine ⟨.ref s.heap.objs.size, _, I1, rfl, ⟨_, x, ob, rfl, I.hok.fresh (Nat.le_refl _), by rw [← hob], rfl, fun ys hy => by rw [← seq_inj I hq hy]; exact hx⟩, ⟨⟨y, ?_⟩, st'.1.to fun o q => (sb.2 it (Ne.symm hne)).trans q, hne⟩, fun b hb => ?_⟩
    · have e1 : ((i + 1 : Nat) : Int) = (i : Int) + 1 := by omega
      rw [e1]; exact he'
    · have hb' : b < s.heap.objs.size := by
        rcases List.mem_cons.mp hb with z | z
        · rw [z]; exact hel
        · rw [List.mem_singleton.mp z]; exact hil
      rw [upd_ne (Nat.ne_of_lt hb')]
      exact (hf b hb).1
  done := by
    intro X hP hw hK hc i pins s σ H E I hf st hg
    subst hP hw hK
    obtain ⟨⟨old, he⟩, hit, hne⟩ := st
    obtain ⟨xs, hq, hx⟩ := hg
    obtain ⟨its, rv, raw⟩ := inv_seq I hq
    obtain ⟨f0, f1, f2, f3, f4, f5⟩ := hf it (by simp)
    have hl := rv.length
    cases k with
    | false =>
      have hL : s.heap.IsList a its.toArray := raw
      exact wpAny_pyNext_enum_end (I.ok.hd hc) he hit hL (by simp; omega) fun h' eb => ⟨rfl, I.turned (t' := s.toks) (fun b o hb q => eb b o hb q) f0 f1 f3 f4 f5⟩
    | true =>
      exact wpAny_pyNext_enum_endD (drawsLate (A := X.A.in1) true (show X.A.in1.handled = none by simp [I.ok.hd hc]) it a its.toArray i (by simp; omega)) he ⟨rfl, hit, raw⟩ fun h' eb => ⟨rfl, I.turned (t' := s.toks) (fun b o hb q => eb b o hb q) f0 f1 f3 f4 f5⟩
  self := fun A i s Q E ⟨⟨_, he⟩, _⟩ h => wpAny_pyIter_enum he h
theorem meets_enum1 {v : Value} {o : Obj} {H : Heap → Prop} (B : Begins v o H) :
    Meets (Builtin.«enumerate.__new__» ⟨[.type "enumerate", v], []⟩) (fun _ R s => H s.heap ∧
      R (.ok (.ret (.ref (s.heap.push o).objs.size))) { s with heap := (s.heap.push o).push { cls := .type "enumerate", data := .fields #[.none, .bool false, .ref s.heap.objs.size, rawInt 0, .none, .none] } }) :=
  .of_wp fun prog w A R s h => by
    obtain ⟨hp, g, d, tk, os⟩ := s; obtain ⟨h1, h⟩ := h
    have f_sub := sub_enumerate
    have q1 : ∀ {A' : Around} {E : Value → Shared → Prop} {Q : Value → Shared → Prop}, Q (.ref hp.objs.size) ⟨hp.push o, g, d, tk, os⟩ → wpAny (model prog w) A' (pyIter v) Q E ⟨hp, g, d, tk, os⟩ :=
      fun q => B.iter prog w _ _ ⟨hp, g, d, tk, os⟩ _ h1 q
    wp_walk using q1
    refine wpAny_stack_any fun st => wpAny_pure ?_
    split
    · rename_i c _ _ _ _ _
      cases (c == Value.type "enumerate") <;>
      · wp_walk using q1
        exact ⟨_, rfl, h⟩
    · wp_walk using q1
      exact ⟨_, rfl, h⟩
section
variable {prog : Program} {w : World} {A : Around} {E : Value → Shared → Prop} {s : Shared}
theorem enum_start {v : Value} {o : Obj} {H : Heap → Prop} {Q : Value → Shared → Prop} (B : Begins v o H) (h1 : H s.heap)
    (h : ∀ h', IsEnum h' (s.heap.objs.size + 1) s.heap.objs.size 0 .none → h'.get? s.heap.objs.size = some o → h'.objs.size = s.heap.objs.size + 2 →
      (∀ b o, s.heap.get? b = some o → h'.get? b = some o) → Q (.ref (s.heap.objs.size + 1)) { s with heap := h' }) :
    wpAny (model prog w) A (call (.type "enumerate") [v]) Q E s := by
  refine callType_new F.called_enumerate (by decide) (F.typeCall_enumerate_1 _) (F.newCall_enumerate_1 _) (fun obj => F.args_object_init_2 obj _) F.entry_enumerate_new (meets_enum1 B) ⟨h1, ?_⟩
  have z1 : (s.heap.push o).objs.size = s.heap.objs.size + 1 := Heap.size_push ..
  show _ ∧ _
  rw [z1]
  have he : IsEnum ((s.heap.push o).push { cls := .type "enumerate", data := .fields #[.none, .bool false, .ref s.heap.objs.size, rawInt 0, .none, .none] }) (s.heap.objs.size + 1) s.heap.objs.size 0 .none := by
    have q := Heap.get?_push_size (s.heap.push o) (o := { cls := .type "enumerate", data := .fields #[.none, .bool false, .ref s.heap.objs.size, rawInt 0, .none, .none] }) rfl
    rw [z1] at q; exact q
  exact ⟨⟨_, he, rfl⟩, h _ he (Heap.get?_push_of_some _ (Heap.get?_push_size _ B.free)) (by rw [Heap.size_push, z1]) fun b o x => Heap.get?_push_of_some _ (Heap.get?_push_of_some _ x)⟩
end
theorem RawB.lt {k : Bool} {h : Heap} {a : Addr} {its : Array Value} (r : RawB k h a its) : a < h.objs.size := by
  cases k <;> obtain ⟨o, ho, _⟩ := r <;> exact Heap.lt_size ho
def iEnumB (K : PySem.W.Frag) (ta : TA) : TI := fun σ H R => ta σ H fun vs H1 => ∃ k a xs, vs = [.ref a] ∧ SqB K H1 k a xs ∧ R (IteB K k a) H1
theorem pi_enumB {X : Cx} {e : Expr} {ta : TA} {p pos tpos : Pos} {elts : List Expr} {kk : Nat} (hg : Gl X "enumerate") (hm : X.mg "enumerate" = none) (ha : PA X [e] ta) (hs : starEach [e] X.env = [(false, eval e X.env)] := by rfl) :
    PI X (.Tuple elts kk tpos) (.Call (.Name "enumerate" p) [e] [] pos) (iEnumB X.K ta) := by
  refine ⟨fun pins s σ H R I h => ?_⟩
  refine Call_ (ld_blt I hg hm boot_enumerate (PyProof.Rows.callWith_type1 (thn (ha.run pos pins s σ H _ I h) fun us s1 ⟨vs, H1, I1, r1, k, a, xs, ex, hq, q⟩ => ?_) hs rfl))
  subst ex
  obtain ⟨u, rfl, ru⟩ := r1.one
  cases ru
  obtain ⟨its, rv, raw⟩ := inv_seq I1 hq
  have al := raw.lt
  refine enum_start (beginsB k a its.toArray) raw fun h' he hit hsz hk => wpAny_pyIter_enum he ?_
  have I2 : Inv X pins σ H1 { s1 with heap := h' } := I1.kept (t' := s1.toks) hk
  refine ⟨s1.heap.objs.size + 1, [s1.heap.objs.size + 1, s1.heap.objs.size], _, _, H1, rfl, I2, turn_enumB k a (s1.heap.objs.size + 1) s1.heap.objs.size (Nat.ne_of_gt (Nat.lt_succ_of_lt al)) (Nat.ne_of_lt al), ⟨⟨.none, he⟩, itObj_iter hit, Nat.succ_ne_self _⟩, fun b hb => ?_, q⟩
  have hle : s1.heap.objs.size ≤ b := by
    rcases List.mem_cons.mp hb with z | z
    · rw [z]; exact Nat.le_succ _
    · rw [List.mem_singleton.mp z]; exact Nat.le_refl _
  exact I1.fpOk hle (I1.hok.fresh hle)
/-! ### zip -/
def ItzB (K : PySem.W.Frag) (k1 k2 : Bool) (a b : Addr) : It :=
  ⟨fun i H => ∃ (xs ys : List V) (x y : V), SqB K H k1 a xs ∧ SqB K H k2 b ys ∧ xs[i]? = some x ∧ ys[i]? = some y,
    fun i H v H' => ∃ T x y o, v = .ref T ∧ H T = none ∧ o.dict = none ∧ H' = upd H T (.frz o (.tup [x, y])) ∧ (∀ xs, SqB K H k1 a xs → xs[i]? = some x) ∧ ∀ ys, SqB K H k2 b ys → ys[i]? = some y,
    fun i H => ∃ xs ys : List V, SqB K H k1 a xs ∧ SqB K H k2 b ys ∧ (xs.length ≤ i ∨ ys.length ≤ i)⟩
structure Apart (z TI TO i1 i2 a b : Addr) : Prop where
  sep : ZipSep2 z TI TO i1 i2 [i1, a] [i2, b]
  a1 : a ≠ i1
  b2 : b ≠ i2
theorem turn_zipB {P : Program} {w : World} {K : PySem.W.Frag} {elts : List Expr} {kk : Nat} {tpos : Pos} {k1 k2 : Bool} {z TI TO i1 i2 a b : Addr} (D : Apart z TI TO i1 i2 a b) :
    Turn P w K (.Tuple elts kk tpos) (ItzB K k1 k2 a b) [z, TI, TO, i1, i2] z (fun i h => IsZip h z TI TO .none ∧ IsTupOf2 h TI (.ref i1) (.ref i2) ∧ (∃ u v, IsTupOf2 h TO u v) ∧ IterB k1 h i1 a i ∧ IterB k2 h i2 b i) where
  mem := by simp
  obj := fun i h ⟨h1, h2, ⟨u, v, h3⟩, h4, h5⟩ c hc => by
    have hc' : c = z ∨ c = TI ∨ c = TO ∨ c = i1 ∨ c = i2 := by simpa using hc
    rcases hc' with e | e | e | e | e
    · rw [e]; exact ⟨_, h1, fun v q => nomatch q⟩
    · rw [e]; exact ⟨_, h2, fun v q => nomatch q⟩
    · rw [e]; exact ⟨_, h3, fun v q => nomatch q⟩
    · rw [e]; exact h4.ob
    · rw [e]; exact h5.ob
  keep := fun i h h' ⟨h1, h2, ⟨u, v, h3⟩, h4, h5⟩ q => ⟨q z (by simp) _ h1, q TI (by simp) _ h2, ⟨u, v, q TO (by simp) _ h3⟩, h4.to fun o e => q i1 (by simp) o e, h5.to fun o e => q i2 (by simp) o e⟩
  item := by
    intro X hP hw hK hc i pins s σ H E I hf st hg
    subst hP hw hK
    obtain ⟨z1, z2, ⟨u, v, z3⟩, z4, z5⟩ := st
    obtain ⟨xs, ys, x, y, hq1, hq2, hx, hy⟩ := hg
    obtain ⟨its, rv, raw⟩ := inv_seq I hq1
    obtain ⟨jts, rw', raw'⟩ := inv_seq I hq2
    obtain ⟨xu, hxu, rxu⟩ := rv.get hx
    obtain ⟨yu, hyu, ryu⟩ := rw'.get hy
    have hin : X.A.in1.handled = none := by simp [I.ok.hd hc]
    have lt1 : i < its.toArray.size := by simpa using (List.getElem?_eq_some_iff.mp hxu).1
    have lt2 : i < jts.toArray.size := by simpa using (List.getElem?_eq_some_iff.mp hyu).1
    have lz : z < s.heap.objs.size := Heap.lt_size z1
    have lTI : TI < s.heap.objs.size := Heap.lt_size z2
    have lTO : TO < s.heap.objs.size := Heap.lt_size z3
    have l1 : i1 < s.heap.objs.size := by obtain ⟨o, ho, _⟩ := z4.ob; exact Heap.lt_size ho
    have l2 : i2 < s.heap.objs.size := by obtain ⟨o, ho, _⟩ := z5.ob; exact Heap.lt_size ho
    refine wpAny_pyNext_zipD2_item D.sep (drawsB (A := X.A.in1) k1 hin i1 a D.a1 its.toArray) (drawsB (A := X.A.in1) k2 hin i2 b D.b2 jts.toArray) z1 z2 z3 ⟨z4, raw⟩ ⟨z5, raw'⟩ lt1 lt2 fun x1 x2 h' tk e1 e2 b1 b2 d1 d2 b5 b6 hk => ?_
    have ex : x1 = xu := by
      have h1 : its[i]? = some x1 := by simpa using e1
      rw [hxu] at h1; exact (Option.some.inj h1).symm
    have ey : x2 = yu := by
      have h1 : jts[i]? = some x2 := by simpa using e2
      rw [hyu] at h1; exact (Option.some.inj h1).symm
    subst ex; subst ey
    refine ⟨_, rfl, wpAny_letOwnedTupleGo_zip (s := { s with heap := h', toks := tk }) b1 fun h'' he' sb => ?_⟩
    have hT2 : h''.get? s.heap.objs.size = some { cls := .type "tuple", data := .seq #[x1, x2] } := (sb.2 _ (Nat.ne_of_gt lz)).trans b5
    generalize hob : ({ cls := .type "tuple", data := .seq #[x1, x2] } : Obj) = ob at hT2
    have new : ObjOk X.prog X.w (upd H s.heap.objs.size (.frz ob (.tup [x, y]))) h'' s.heap.objs.size (.frz ob (.tup [x, y])) :=
      ⟨hT2, by show 2 ≤ sizeLine; decide, [x1, x2], .cons rxu (.cons ryu .nil), ⟨_, hT2, by rw [← hob], _, by rw [← hob]⟩⟩
    have I1 : Inv X pins σ (upd H s.heap.objs.size (.frz ob (.tup [x, y]))) { s with heap := h'', toks := tk } :=
      I.turnedNew (ch := [z, TI, TO, i1, i2]) (fun c o hb q => (sb.2 c (fun e => hb (by simp [e]))).trans (hk c o (fun e => hb (by simp [e])) (fun e => hb (by simp [e])) (fun e => hb (by simp [e])) (fun e => hb (by simp [e])) q)) hf (Nat.le_refl _) new
    have over : ∀ c o, c ≠ z → h'.get? c = some o → h''.get? c = some o := fun c o hc e => (sb.2 c hc).trans e
    have n1 : i1 ≠ z := fun e => D.sep.zf1 (by simp [e])
    have n2 : i2 ≠ z := fun e => D.sep.zf2 (by simp [e])
    refine ⟨.ref s.heap.objs.size, _, I1, rfl, ⟨_, x, y, ob, rfl, I.hok.fresh (Nat.le_refl _), by rw [← hob], rfl, fun xs' h => by rw [← seq_inj I hq1 h]; exact hx, fun ys' h => by rw [← seq_inj I hq2 h]; exact hy⟩,
      ⟨he', over _ _ D.sep.TIz (hk _ _ D.sep.TIz D.sep.TITO D.sep.TIi1 D.sep.TIi2 z2), ⟨_, _, over _ _ D.sep.TOz b2⟩, d1.1.to fun o e => over _ _ n1 e, d2.1.to fun o e => over _ _ n2 e⟩, fun c hc => ?_⟩
    have hc' : c < s.heap.objs.size := by
      have : c = z ∨ c = TI ∨ c = TO ∨ c = i1 ∨ c = i2 := by simpa using hc
      rcases this with e | e | e | e | e <;> rw [e] <;> assumption
    rw [upd_ne (Nat.ne_of_lt hc')]
    exact (hf c hc).1
  done := by
    intro X hP hw hK hc i pins s σ H E I hf st hg
    subst hP hw hK
    obtain ⟨z1, z2, ⟨u, v, z3⟩, z4, z5⟩ := st
    obtain ⟨xs, ys, hq1, hq2, hend⟩ := hg
    obtain ⟨its, rv, raw⟩ := inv_seq I hq1
    obtain ⟨jts, rw', raw'⟩ := inv_seq I hq2
    have e1 := rv.length
    have e2 := rw'.length
    have hin : X.A.in1.handled = none := by simp [I.ok.hd hc]
    obtain ⟨n1, P1, St1, D1, s1, l1, f1⟩ := drawsAt (prog := X.prog) (w := X.w) (A := X.A.in1) k1 hin i1 a D.a1 its.toArray i
    obtain ⟨n2, P2, St2, D2, s2, l2, f2⟩ := drawsAt (prog := X.prog) (w := X.w) (A := X.A.in1) k2 hin i2 b D.b2 jts.toArray i
    have hend' : i = n1 ∨ i = n2 := by
      rcases hend with e | e
      · exact .inl (f1 (by simp; omega))
      · exact .inr (f2 (by simp; omega))
    refine wpAny_pyNext_zipD2_end D.sep D1 D2 z1 z2 z3 (s1 _ z4 raw) (s2 _ z5 raw') l1 l2 hend' fun h' tk hk => ⟨rfl, ?_⟩
    exact I.turnedL (ch := [z, TI, TO, i1, i2]) (fun c o hb q => hk c o (fun e => hb (by simp [e])) (fun e => hb (by simp [e])) (fun e => hb (by simp [e])) (fun e => hb (by simp [e])) q) hf
  self := fun A i s Q E st h => wpAny_pyIter_zip st.1 h
end PLz
set_option maxHeartbeats 4000000
/-! PEN2: the mirrors of enumerate and zip. -/
namespace PLz
open PySem PySem.Spec PyProof.Rows L2
def iZipB (K : PySem.W.Frag) (ta : TA) : TI := fun σ H R => ta σ H fun vs H1 => ∃ k1 k2 a b xs ys, vs = [.ref a, .ref b] ∧ SqB K H1 k1 a xs ∧ SqB K H1 k2 b ys ∧ R (ItzB K k1 k2 a b) H1
theorem pi_zipB {X : Cx} {e f : Expr} {ta : TA} {p pos tpos : Pos} {elts : List Expr} {kk : Nat} (hg : Gl X "zip") (hm : X.mg "zip" = none) (ha : PA X [e, f] ta) (hs : starEach [e, f] X.env = (false, eval e X.env) :: starEach [f] X.env := by rfl) (hpl : (backTo pos (starEach [f] X.env)).any (·.1) = false := by rfl) :
    PI X (.Tuple elts kk tpos) (.Call (.Name "zip" p) [e, f] [] pos) (iZipB X.K ta) := by
  refine ⟨fun pins s σ H R I h => ?_⟩
  refine Call_ (ld_blt I hg hm boot_zip (PyProof.Rows.callWith_type1 (thn (ha.run pos pins s σ H _ I h) fun us s1 ⟨vs, H1, I1, r1, k1, k2, a, b, xs, ys, ex, hq1, hq2, q⟩ => ?_) hs hpl))
  subst ex
  cases r1 with
  | cons ra r1 =>
  cases r1 with
  | cons rb r1 =>
  cases r1
  cases ra
  cases rb
  obtain ⟨its, rv, raw⟩ := inv_seq I1 hq1
  obtain ⟨jts, rw', raw'⟩ := inv_seq I1 hq2
  have al := raw.lt
  have bl := raw'.lt
  generalize hN : s1.heap.objs.size = N at al bl
  have al' : ∀ j, a ≠ N + j := fun j => Nat.ne_of_lt (Nat.lt_of_lt_of_le al (Nat.le_add_right _ _))
  have bl' : ∀ j, b ≠ N + j := fun j => Nat.ne_of_lt (Nat.lt_of_lt_of_le bl (Nat.le_add_right _ _))
  have nn : ∀ i j, i ≠ j → N + i ≠ N + j := fun i j h e => h (Nat.add_left_cancel e)
  have D : Apart (N + 4) (N + 2) (N + 3) (N + 0) (N + 1) a b := by
    refine ⟨?_, al' 0, bl' 1⟩
    constructor
    all_goals first
      | exact nn _ _ (by decide)
      | simp
      | skip
    all_goals first
      | exact fun h => al' _ h.symm
      | exact fun h => bl' _ h.symm
      | exact fun h => al' 0 h.symm
      | exact fun h => bl' 0 h.symm
  refine zip_begins2 (beginsB k1 a its.toArray) (beginsB k2 b jts.toArray) raw raw' fun h' hz hTI hTO h1 h2 hsz hk => wpAny_pyIter_zip hz ?_
  rw [hN] at hz hTI hTO h1 h2 hsz ⊢
  have I2 : Inv X pins σ H1 { s1 with heap := h' } := I1.kept (t' := s1.toks) hk
  refine ⟨N + 4, [N + 4, N + 2, N + 3, N + 0, N + 1], _, _, H1, rfl, I2, turn_zipB D, ⟨hz, hTI, ⟨_, _, hTO⟩, itObj_iter h1, itObj_iter h2⟩, fun c hc => ?_, q⟩
  have hle : s1.heap.objs.size ≤ c := by
    have : c = N + 4 ∨ c = N + 2 ∨ c = N + 3 ∨ c = N + 0 ∨ c = N + 1 := by simpa using hc
    rw [hN]
    rcases this with e | e | e | e | e <;> rw [e] <;> exact Nat.le_add_right _ _
  exact I1.fpOk hle (I1.hok.fresh hle)
end PLz
namespace PL
open PySem PySem.Spec PyProof.Rows L2 PLz
/-- a list or a tuple: its items, and what must stand -/
def srcP (p : PV) (S : Sto) : Option (List PV × List (Nat × List PV)) := match p with
  | .tup xs => some (xs, [])
  | .fls xs => some (xs, [])
  | .loc l => match S[l]? with | some (.lst xs) => some (xs, [(l, xs)]) | _ => none
  | _ => none
def zipI (xs ys : List PV) : List PV := (xs.zip ys).map fun p => .tup [p.1, p.2]
def enumAO : PV → Sto → Out Wk := fun p S => match srcP p S with | some (xs, g) => .ok ⟨enumI xs, g⟩ S | none => .bad
def enumAM (m : EM PV) : EM Wk := fun τ S => bnd (m τ S) enumAO
def zipO (p : PV) : PV → Sto → Out Wk := fun q S => match srcP p S, srcP q S with | some (xs, g), some (ys, g') => .ok ⟨zipI xs ys, g ++ g'⟩ S | _, _ => .bad
def zip1 (mb : EM PV) (τ : En) : PV → Sto → Out Wk := fun p S => bnd (mb τ S) (zipO p)
def zipM (ma mb : EM PV) : EM Wk := fun τ S => bnd (ma τ S) (zip1 mb τ)
@[simp] theorem e_enumAM (m : EM PV) (τ : En) (S : Sto) : enumAM m τ S = bnd (m τ S) enumAO := rfl
@[simp] theorem e_zipM (ma mb : EM PV) (τ : En) (S : Sto) : zipM ma mb τ S = bnd (ma τ S) (zip1 mb τ) := rfl
@[simp] theorem e_zip1 (mb : EM PV) (τ : En) (p : PV) (S : Sto) : zip1 mb τ p S = bnd (mb τ S) (zipO p) := rfl
@[simp] theorem e_enumAO (p : PV) (S : Sto) : enumAO p S = match srcP p S with | some (xs, g) => .ok ⟨enumI xs, g⟩ S | none => .bad := rfl
@[simp] theorem e_zipO (p q : PV) (S : Sto) : zipO p q S = match srcP p S, srcP q S with | some (xs, g), some (ys, g') => .ok ⟨zipI xs ys, g ++ g'⟩ S | _, _ => .bad := rfl
@[simp] theorem srcP_tup (xs : List PV) (S : Sto) : srcP (.tup xs) S = some (xs, []) := rfl
@[simp] theorem srcP_fls (xs : List PV) (S : Sto) : srcP (.fls xs) S = some (xs, []) := rfl
@[simp] theorem srcP_loc (l : Nat) (S : Sto) : srcP (.loc l) S = match S[l]? with | some (.lst xs) => some (xs, [(l, xs)]) | _ => none := rfl
theorem zipI_at {xs ys : List PV} {i : Nat} {x y : PV} (h : xs[i]? = some x) (h' : ys[i]? = some y) : (zipI xs ys)[i]? = some (.tup [x, y]) := by
  unfold zipI
  have : (xs.zip ys)[i]? = some (x, y) := List.getElem?_zip_eq_some.mpr ⟨h, h'⟩
  rw [List.getElem?_map, this]; rfl
section
variable {X : Cx} {W : WX} {a b : Expr} {ma mb : EM PV} {pos : Pos}
/-- what a source is in the heap -/
theorem src_ok {ι : List Addr} {H : Hp} {S : Sto} {p : PV} {x : V} {xs : List PV} {g : List (Nat × List PV)} (r : RSt X.K X.mg ι H S) (q : Rp X.K ι H p x) (h : srcP p S = some (xs, g)) :
    ∃ k ad vs, x = .ref ad ∧ SqB X.K H k ad vs ∧ ∀ ι2 H2 S2, ExtW ι H ι2 H2 → RSt X.K X.mg ι2 H2 S2 → (∀ p ∈ g, S2[p.1]? = some (.lst p.2)) → ∃ vs2, SqB X.K H2 k ad vs2 ∧ RpL X.K ι2 H2 xs vs2 := by
  cases p with
  | tup ys =>
    cases h
    obtain ⟨ad, vs, rfl, h1, h2⟩ := q
    exact ⟨true, ad, vs, rfl, h1.seq, fun ι2 H2 S2 e _ _ => ⟨vs, (h1.upW e).seq, RpL.upW e _ _ h2⟩⟩
  | fls ys =>
    cases h
    obtain ⟨ad, vs, rfl, h1, h2⟩ := q
    exact ⟨false, ad, vs, rfl, h1.seq, fun ι2 H2 S2 e _ _ => ⟨vs, (h1.upW e).seq, RpL.upW e _ _ h2⟩⟩
  | loc l =>
    rw [srcP_loc] at h
    split at h
    · rename_i ys eS
      cases h
      obtain ⟨ad, rfl, h1⟩ := q
      obtain ⟨vs, h2, h3⟩ := r.obj l ad _ h1 eS
      refine ⟨false, ad, vs, rfl, .of h2, fun ι2 H2 S2 e r2 ok => ?_⟩
      obtain ⟨vs2, h4, h5⟩ := r2.obj l ad _ (e.pre l ad h1) (ok (l, xs) (by simp))
      exact ⟨vs2, .of h4, h5⟩
    · cases h
  | _ => cases h
theorem ri_enumA {k : Nat} {elts : List Expr} {p tpos : Pos} (hg : Gl X "enumerate") (hm : X.mg "enumerate" = none) (ha : RE X W a ma) (hs : starEach [a] X.env = [(false, eval a X.env)] := by rfl) : RI X W (.Tuple elts k tpos) (.Call (.Name "enumerate" p) [a] [] pos) (enumAM ma) :=
  ⟨pi_weak (pi_enumB hg hm (pa_cons ha.pe pa_nil hs) hs) fun σ H R ⟨ι, τ, S, r, ρ, pk⟩ => ⟨ι, τ, S, r, ρ, pk.next.mono fun x H1 ⟨p, ι1, S1, e1, r1, q1, pk1⟩ => by
    rw [e_enumAO] at pk1
    cases hsrc : srcP p S1 with
    | none => rw [hsrc] at pk1; exact pk1.elim
    | some z =>
      obtain ⟨xs, g⟩ := z
      rw [hsrc] at pk1
      obtain ⟨kd, ad, vs, rfl, h1, h2⟩ := src_ok r1 q1 hsrc
      refine ⟨kd, ad, vs, rfl, h1, pk1 ι1 H1 _ .refl r1 fun i ι2 H2 S2 e r2 ok => ?_⟩
      obtain ⟨vs2, h3, h4⟩ := h2 ι2 H2 S2 e r2 ok
      have hlen : ({ items := enumI xs, g := g } : Wk).items.length = xs.length := by show (enumI xs).length = _; unfold enumI; simp
      rw [hlen]
      refine ⟨fun hi => ?_, fun hi => ⟨vs2, h3, by rw [← h4.length]; exact hi⟩⟩
      obtain ⟨p, hp⟩ := get_len hi
      obtain ⟨v, hv, rv⟩ := h4.get hp
      refine ⟨⟨vs2, v, h3, hv⟩, fun x H3 ⟨T, y, o, ex, hT, ho, eH, hf⟩ => ?_⟩
      subst ex; subst eH
      have e1 := hf vs2 h3
      rw [hv] at e1; cases e1
      obtain ⟨E, r3⟩ := r2.tup (ho := .frz o (.tup [.int (i : Nat), v])) hT
      exact ⟨_, enumI_at hp, E, r3, T, _, rfl, .inl ⟨o, upd_same, ho⟩, ⟨.int (i : Nat), [v], rfl, rfl, v, [], rfl, rv.up E, rfl⟩⟩⟩⟩
theorem ri_zip {k : Nat} {elts : List Expr} {p tpos : Pos} (hg : Gl X "zip") (hm : X.mg "zip" = none) (ha : RE X W a ma) (hb : RE X W b mb) (hs : starEach [a, b] X.env = (false, eval a X.env) :: starEach [b] X.env := by rfl) (hpl : (backTo pos (starEach [b] X.env)).any (·.1) = false := by rfl)
    (hs1 : starEach [b] X.env = (false, eval b X.env) :: starEach [] X.env := by rfl) : RI X W (.Tuple elts k tpos) (.Call (.Name "zip" p) [a, b] [] pos) (zipM ma mb) :=
  ⟨pi_weak (pi_zipB hg hm (pa_cons ha.pe (pa_cons hb.pe pa_nil hs1) hs) hs hpl) fun σ H R ⟨ι, τ, S, r, ρ, pk⟩ => ⟨ι, τ, S, r, ρ, pk.next.mono fun x H1 ⟨p, ι1, S1, e1, r1, q1, pk1⟩ =>
    ⟨ι1, τ, S1, r1, ρ.up e1, Pk.mono (Pk.next pk1) fun y H2 ⟨q, ι2, S2, e2, r2, q2, pk2⟩ => by
      rw [e_zipO] at pk2
      have q1' := q1.up e2
      cases hs1 : srcP p S2 with
      | none => rw [hs1] at pk2; exact pk2.elim
      | some z =>
        obtain ⟨xs, g⟩ := z
        rw [hs1] at pk2
        cases hs2 : srcP q S2 with
        | none => rw [hs2] at pk2; exact pk2.elim
        | some z' =>
          obtain ⟨ys, g'⟩ := z'
          rw [hs2] at pk2
          obtain ⟨k1, ad, vs, rfl, h1, h2⟩ := src_ok r2 q1' hs1
          obtain ⟨k2, bd, ws, rfl, h1', h2'⟩ := src_ok r2 q2 hs2
          refine ⟨k1, k2, ad, bd, vs, ws, rfl, h1, h1', pk2 ι2 H2 _ .refl r2 fun i ι3 H3 S3 e r3 ok => ?_⟩
          obtain ⟨vs2, h3, h4⟩ := h2 ι3 H3 S3 e r3 fun p hp => ok p (List.mem_append_left _ hp)
          obtain ⟨ws2, h3', h4'⟩ := h2' ι3 H3 S3 e r3 fun p hp => ok p (List.mem_append_right _ hp)
          have hlen : ({ items := zipI xs ys, g := g ++ g' } : Wk).items.length = min xs.length ys.length := by show (zipI xs ys).length = _; unfold zipI; simp
          rw [hlen]
          have l1 := h4.length
          have l2 := h4'.length
          refine ⟨fun hi => ?_, fun hi => ⟨vs2, ws2, h3, h3', by omega⟩⟩
          obtain ⟨p, hp⟩ := get_len (xs := xs) (i := i) (by omega)
          obtain ⟨q, hq⟩ := get_len (xs := ys) (i := i) (by omega)
          obtain ⟨v, hv, rv⟩ := h4.get hp
          obtain ⟨u, hu, ru⟩ := h4'.get hq
          refine ⟨⟨vs2, ws2, v, u, h3, h3', hv, hu⟩, fun x H4 ⟨T, y, y', o, ex, hT, ho, eH, hf, hf'⟩ => ?_⟩
          subst ex; subst eH
          have e1 := hf vs2 h3
          rw [hv] at e1; cases e1
          have e2 := hf' ws2 h3'
          rw [hu] at e2; cases e2
          obtain ⟨E, r4⟩ := r3.tup (ho := .frz o (.tup [v, u])) hT
          exact ⟨_, zipI_at hp hq, E, r4, T, _, rfl, .inl ⟨o, upd_same, ho⟩, ⟨v, [u], rfl, rv.up E, u, [], rfl, ru.up E, rfl⟩⟩⟩⟩⟩
end
end PL
/-! PEN3: reasoning about enumerate and zip. -/
namespace PL
open PySem PySem.Spec PyProof.Rows L2 PLz
theorem enumI_map {α : Type} (f : α → PV) (xs : List α) : enumI (xs.map f) = xs.zipIdx.map fun p => .tup [.int (p.2 : Nat), f p.1] := by
  unfold enumI
  rw [List.zipIdx_map, List.map_map]
  rfl
theorem zipIdx_split {α : Type} {xs : List α} {dn rs : List (α × Nat)} {p : α × Nat} (h : xs.zipIdx = dn ++ p :: rs) : p.2 = dn.length ∧ xs[dn.length]? = some p.1 := by
  have h1 : (xs.zipIdx)[dn.length]? = some p := by rw [h]; simp
  rw [List.getElem?_zipIdx] at h1
  cases q : xs[dn.length]? with
  | none => rw [q] at h1; cases h1
  | some x =>
    rw [q] at h1
    have := Option.some.inj h1
    subst this
    exact ⟨by simp, rfl⟩
/-- for over enumerate -/
theorem forE_wp {α : Type} {N : En → Sto → Prop} {T : PV → Sto → Prop} {R : Str → PV → En → Sto → Prop} {t : Wk} {g : GM} {b : SM} (f : α → PV) {xs : List α} (Inv : Nat → En → Sto → Prop) {τ : En} {S : Sto} (h0 : Inv 0 τ S)
    (hs : ∀ i x τ S (J : En → Sto → Prop), xs[i]? = some x → Inv i τ S → (∀ τ' S', Inv (i + 1) τ' S' → J τ' S') → t.ok S ∧ ∃ τ1, g (.tup [.int (i : Nat), f x]) τ = some τ1 ∧ wpS (b τ1 S) J T R)
    (he : ∀ τ S, Inv xs.length τ S → t.ok S ∧ N τ S) : wpS (forL t g b (enumI (xs.map f)) τ S) N T R := by
  rw [enumI_map]
  refine forM_wp (fun p : α × Nat => PV.tup [.int (p.2 : Nat), f p.1]) (fun dn τ S => Inv dn.length τ S) h0 ?_ ?_
  · intro dn p rs τ S J e h hJ
    obtain ⟨e1, e2⟩ := zipIdx_split e
    rw [e1]
    exact hs _ p.1 τ S J e2 h fun τ' S' k => hJ τ' S' (by simpa using k)
  · intro τ S h
    exact he τ S (by simpa using h)
/-- a comprehension over enumerate that changes nothing -/
theorem accE_map {α : Type} {P : List PV → Sto → Prop} {R : Str → PV → Sto → Prop} {t : Wk} {g : GM} {st : List PV → En → Sto → Out (List PV)} (f : α → PV) (q : Nat → α → PV) {xs : List α} {τ : En} {S : Sto} (hok : t.ok S) (hl : xs.length ≤ 16777216)
    (hs : ∀ i x, xs[i]? = some x → ∀ (acc : List PV) (J : List PV → Sto → Prop), acc.length < 16777216 → J (acc ++ [q i x]) S → ∃ τ1, g (.tup [.int (i : Nat), f x]) τ = some τ1 ∧ wp (st acc τ1 S) J R)
    (he : P (xs.zipIdx.map fun p => q p.2 p.1) S) : wp (accL t g st [] (enumI (xs.map f)) τ S) P R := by
  rw [enumI_map]
  refine acc_map (fun p : α × Nat => PV.tup [.int (p.2 : Nat), f p.1]) (fun p => q p.2 p.1) hok (by simpa using hl) ?_ (by simpa using he)
  intro p hp acc J ha hJ
  have : xs[p.2]? = some p.1 := by
    have := List.mem_iff_getElem?.mp hp
    obtain ⟨i, hi⟩ := this
    rw [List.getElem?_zipIdx] at hi
    cases z : xs[i]? with
    | none => rw [z] at hi; cases hi
    | some x =>
      rw [z] at hi
      have := Option.some.inj hi
      subst this
      simpa using z
  exact hs p.2 p.1 this acc J ha hJ
/-- one item, as a slice -/
theorem cut_one {α : Type} (f : α → PV) {xs : List α} {i : Nat} {x : α} (h : xs[i]? = some x) : cutP (xs.map f) (some (i : Nat)) (some ((i : Nat) + 1)) = [f x] := by
  have hl : i < xs.length := (List.getElem?_eq_some_iff.mp h).1
  unfold cutP
  have e1 : HT.sIx (xs.map f).length 0 (some ((i : Nat) : Int)) = i := by rw [HT.sIx_nat]; simp; omega
  have e2 : HT.sIx (xs.map f).length (xs.map f).length (some (((i : Nat) : Int) + 1)) = i + 1 := by
    rw [show ((i : Nat) : Int) + 1 = ((i + 1 : Nat) : Int) by omega, HT.sIx_nat]; simp; omega
  rw [e1, e2, ← List.map_drop, show i + 1 - i = 1 by omega]
  rw [List.drop_eq_getElem_cons hl]
  have : xs[i] = x := by
    have := List.getElem?_eq_getElem hl
    rw [h] at this
    exact (Option.some.inj this).symm
  simp [this]
/-- a comprehension that keeps some and changes nothing -/
theorem acc_filter {α : Type} {P : List PV → Sto → Prop} {R : Str → PV → Sto → Prop} {t : Wk} {g : GM} {st : List PV → En → Sto → Out (List PV)} (i f : α → PV) (p : α → Bool) {xs : List α} {acc : List PV} {τ : En} {S : Sto} (hok : t.ok S) (hl : acc.length + xs.length ≤ 16777216)
    (hs : ∀ x ∈ xs, ∀ (acc : List PV) (J : List PV → Sto → Prop), acc.length < 16777216 → J (if p x = true then acc ++ [f x] else acc) S → ∃ τ1, g (i x) τ = some τ1 ∧ wp (st acc τ1 S) J R)
    (he : P (acc ++ (xs.filter p).map f) S) : wp (accL t g st acc (xs.map i) τ S) P R := by
  induction xs generalizing acc with
  | nil => rw [List.map_nil, accL_nil, if_pos hok]; simpa using he
  | cons x xs ih =>
    simp only [List.length_cons] at hl
    obtain ⟨τ1, h1, h2⟩ := hs x (by simp) acc (fun a S => wp (accL t g st a (xs.map i) τ S) P R) (by omega) (by
      by_cases hp : p x = true
      · rw [if_pos hp]
        exact ih (acc := acc ++ [f x]) (by simp; omega) (fun y hy => hs y (by simp [hy])) (by simpa [List.filter_cons, hp] using he)
      · rw [if_neg hp]
        exact ih (acc := acc) (by omega) (fun y hy => hs y (by simp [hy])) (by simpa [List.filter_cons, hp] using he))
    simp only [List.map_cons, accL, if_pos hok, h1]
    rw [wp_bnd]
    exact h2
end PL
set_option maxHeartbeats 4000000
/-! PKD: written dicts of the module, xs[::k]. -/
namespace PL
open PySem PySem.Spec PyProof.Rows L2
/-! ### NAMES[k] -/
def kdO (es : List (Str × PV)) : PV → Sto → Out PV := fun p S => match p with
  | .str x => (match es.lookup x with | some v => .ok v S | none => .bad)
  | _ => .bad
def kdM (es : List (Str × PV)) (m : EM PV) : EM PV := fun τ S => bnd (m τ S) (kdO es)
@[simp] theorem e_kdM (es : List (Str × PV)) (m : EM PV) (τ : En) (S : Sto) : kdM es m τ S = bnd (m τ S) (kdO es) := rfl
@[simp] theorem e_kdO (es : List (Str × PV)) (x : Str) (S : Sto) : kdO es (.str x) S = match es.lookup x with | some v => .ok v S | none => .bad := rfl
/-- the module's dict N holds es -/
structure KDs (K : PySem.W.Frag) (mg : Str → Option Value) (w : World) (N : Str) (es : List (Str × PV)) : Prop where
  ex : ∃ a, mg N = some (.ref a) ∧ ∀ x v, es.lookup x = some v → ∃ v', KDct K w a x v' ∧ ∀ ι H, Rp K ι H v v'
theorem kds_nil {K : PySem.W.Frag} {mg : Str → Option Value} {w : World} {N : Str} {a : Addr} (h : mg N = some (.ref a)) : KDs K mg w N [] := ⟨a, h, fun x v e => by simp at e⟩
/-- one entry known -/
def KDe (K : PySem.W.Frag) (w : World) (a : Addr) (es : List (Str × PV)) : Prop := ∀ x v, es.lookup x = some v → ∃ v', KDct K w a x v' ∧ ∀ ι H, Rp K ι H v v'
theorem kde_nil {K : PySem.W.Frag} {w : World} {a : Addr} : KDe K w a [] := fun x v e => by simp at e
theorem kde_cons {K : PySem.W.Frag} {w : World} {a : Addr} {x : Str} {p : PV} {v' : V} {es : List (Str × PV)} (h : KDct K w a x v') (r : ∀ ι H, Rp K ι H p v') (t : KDe K w a es) : KDe K w a ((x, p) :: es) := fun y v e => by
  rw [List.lookup_cons] at e
  split at e
  · rename_i q
    have q' : y = x := by simpa using q
    subst q'
    cases e
    exact ⟨v', h, r⟩
  · exact t y v e
theorem re_kd {X : Cx} {W : WX} {e : Expr} {m : EM PV} {N : Str} {es : List (Str × PV)} {p pos : Pos} (k : KDs X.K X.mg X.w N es) (hg : Gl X N) (he : RE X W e m) (hs : PlainIx e := by exact fun _ _ => rfl) (hd : (N == ("__debug__" : Str)) = false := by decide) :
    RE X W (.Subscript (.Name N p) e pos) (kdM es m) := by
  obtain ⟨a, hN, hes⟩ := k.ex
  refine ⟨pe_weak (pe_ix ix_kdict (pe_glob (v := .ref a) hg hN rfl hd) he.pe hs) fun σ H Q ⟨ι, τ, S, r, ρ, pk⟩ => ⟨ι, τ, S, r, ρ, pk.next.mono fun x H1 ⟨v, ι1, S1, e1, r1, q1, pk1⟩ => ?_⟩⟩
  unfold kdO at pk1
  split at pk1
  · rename_i z
    split at pk1
    · rename_i v0 hv
      obtain ⟨v', kd, rp⟩ := hes z v0 hv
      cases (show x = _ from q1)
      exact ⟨a, z, v', rfl, rfl, kd, pk1 ι1 H1 _ .refl r1 (rp _ _)⟩
    · exact pk1.elim
  · exact pk1.elim
/-! ### xs[::k] -/
def stepO (p : PV) : PV → Sto → Out PV := fun q S => match p, q with
  | .loc l, .int k => (match S[l]? with
    | some (.lst xs) => if k = 1 then .ok (.loc S.length) (S ++ [.lst xs]) else if k = -1 then .ok (.loc S.length) (S ++ [.lst xs.reverse]) else .bad
    | _ => .bad)
  | _, _ => .bad
def step1' (mk : EM PV) (τ : En) : PV → Sto → Out PV := fun p S => bnd (mk τ S) (stepO p)
def stepM (m mk : EM PV) : EM PV := fun τ S => bnd (m τ S) (step1' mk τ)
@[simp] theorem e_stepM (m mk : EM PV) (τ : En) (S : Sto) : stepM m mk τ S = bnd (m τ S) (step1' mk τ) := rfl
@[simp] theorem e_step1' (mk : EM PV) (τ : En) (p : PV) (S : Sto) : step1' mk τ p S = bnd (mk τ S) (stepO p) := rfl
def tStepL (K : PySem.W.Frag) (te ts : TE) : TE := fun σ H Q => te σ H fun x H1 => tPart ts σ H1 fun o H2 => ∃ a xs, x = .ref a ∧ SqL K H2 a xs ∧ ((o = some 1 ∧ ∀ p, H2 p = none → Q (.ref p) (upd H2 p (.lst xs))) ∨ (o = some (-1) ∧ ∀ p, H2 p = none → Q (.ref p) (upd H2 p (.lst xs.reverse))))
section
variable {X : Cx} {W : WX} {e se : Expr} {me ms : EM PV} {p3 pos : Pos}
theorem pe_stepL {te ts : TE} (he : PE X e te) (hse : PE X se ts)
    (hops : ∀ a b, subscripted (.Slice none none (some se) p3) false a b = operate [a, b] (getItem a b) := by intro _ _; with_unfolding_all rfl) :
    PE X (.Subscript e (.Slice none none (some se) p3) pos) (tStepL X.K te ts) := by
  refine ⟨fun pins s σ H Q I h => ?_⟩
  refine Subscript_ (thn (he.run pins s σ H _ I h) fun v s1 ⟨x, H1, I1, r1, q1⟩ => ?_)
  have hst : L2.PO X (some se) (tPart ts) := po_some hse
  refine wpAny_Slice (thn (po_none.run pins s1 σ H1 (fun o H2 => o = none ∧ H2 = H1) I1 ⟨rfl, rfl⟩) fun vl s2 ⟨l, H2, I2, pl, el, e2⟩ => ?_)
  subst el e2
  refine thn (po_none.run pins s2 σ H2 (fun o H3 => o = none ∧ H3 = H2) I2 ⟨rfl, rfl⟩) fun vu s3 ⟨u, H3, I3, pu, eu, e3⟩ => ?_
  subst eu e3
  refine thn (hst.run pins s3 σ H3 _ I3 q1) fun vs s4 ⟨o, H4, I4, ps, a, xs, ex, hx, q⟩ => ?_
  subst ex
  cases r1
  have I5 : L2.Inv X pins σ H4 { s4 with heap := s4.heap.push { cls := .type "slice", data := .fields #[vl, vu, vs] } } := I4.kept (t' := s4.toks) fun b ob q => Heap.get?_push_of_some _ q
  obtain ⟨its, r, ht, hz⟩ := I5.list hx
  have hlen := r.length
  show wpAny (model X.prog X.w) X.A (subscriptTail e (.Slice none none (some se) p3) (.ref a) (.ref s4.heap.objs.size)) (EP X pins σ Q) X.xe { s4 with heap := s4.heap.push { cls := .type "slice", data := .fields #[vl, vu, vs] } }
  refine tail_any (ops := [.ref a, .ref s4.heap.objs.size]) ht.isList.typeIs (PySem.slot_list_getitem.lookup) ?_ (hops _ _)
  rcases q with ⟨eo, q⟩ | ⟨eo, q⟩
  · subst eo
    refine wpAny_getItem_list_slice ht.isList (Heap.IsSliceOf.new _ vl vu vs) pl pu ps (by decide) ?_ (by rw [List.size_toArray]; omega)
    have e1 : slicePick its.toArray none none (some 1) = its.toArray := slicePick_all _
    rw [e1]
    refine ⟨.ref _, _, I5.laid (t' := s4.toks) (o := .lst xs) (fun b ob q => Heap.get?_push_of_some _ q) (Nat.le_refl _) ?_, rfl, q _ (I5.hok.fresh (Nat.le_refl _))⟩
    exact ⟨hz, its, 0, r, Heap.get?_push_size _ rfl⟩
  · subst eo
    refine wpAny_getItem_list_slice ht.isList (Heap.IsSliceOf.new _ vl vu vs) pl pu ps (by decide) ?_ (by rw [List.size_toArray]; omega)
    rw [PySem.W.krv_pick]
    refine ⟨.ref _, _, I5.laid (t' := s4.toks) (o := .lst xs.reverse) (fun b ob q => Heap.get?_push_of_some _ q) (Nat.le_refl _) ?_, rfl, q _ (I5.hok.fresh (Nat.le_refl _))⟩
    exact ⟨by rw [List.length_reverse]; exact hz, _, 0, r.reverse, Heap.get?_push_size _ rfl⟩
theorem re_step (he : RE X W e me) (hse : RE X W se ms)
    (hops : ∀ a b, subscripted (.Slice none none (some se) p3) false a b = operate [a, b] (getItem a b) := by intro _ _; with_unfolding_all rfl) :
    RE X W (.Subscript e (.Slice none none (some se) p3) pos) (stepM me ms) := by
  refine ⟨pe_weak (pe_stepL he.pe hse.pe hops) fun σ H Q ⟨ι, τ, S, r, ρ, pk⟩ => ⟨ι, τ, S, r, ρ, pk.next.mono fun x H1 ⟨p, ι1, S1, e1, r1, q1, pk1⟩ => ⟨ι1, τ, S1, r1, ρ.up e1, Pk.mono (Pk.next pk1) fun y H2 ⟨q, ι2, S2, e2, r2, q2, pk2⟩ => ?_⟩⟩⟩
  cases p with
  | loc l => cases q with
    | int k =>
      unfold stepO at pk2
      simp only at pk2
      split at pk2
      · rename_i xs hl
        obtain ⟨a, rfl, hι⟩ := q1.up e2
        obtain ⟨vs, hv, rl⟩ := r2.obj l a _ hι hl
        refine ⟨k, q2, a, vs, rfl, .of hv, ?_⟩
        split at pk2
        · rename_i hk
          refine .inl ⟨by rw [hk], fun p hp => ?_⟩
          obtain ⟨E, r4, q4⟩ := r2.new_lst hp rl
          exact pk2 _ _ _ E r4 q4
        · split at pk2
          · rename_i hk
            refine .inr ⟨by rw [hk], fun p hp => ?_⟩
            obtain ⟨E, r4, q4⟩ := r2.new_lst hp rl.rev
            exact pk2 _ _ _ E r4 q4
          · exact pk2.elim
      · exact pk2.elim
    | _ => exact pk2.elim
  | _ => exact pk2.elim
end
section
variable {P : PV → Sto → Prop} {R : Str → PV → Sto → Prop} {S : Sto} {l : Nat} {xs : List PV}
theorem step_wp {k : Int} (h : S[l]? = some (.lst xs)) (hk : k = 1 ∨ k = -1) (q : ∀ n S', S'[n]? = some (.lst (if k = 1 then xs else xs.reverse)) → Keep [] S S' → S.length ≤ n → P (.loc n) S') : wp (stepO (.loc l) (.int k) S) P R := by
  simp only [stepO, h]
  rcases hk with rfl | rfl
  · simp only [if_true, wp_ok] at q ⊢
    exact alloc_wp q
  · have n1 : ¬ ((-1 : Int) = 1) := by decide
    simp only [n1, if_false, if_true, wp_ok] at q ⊢
    exact alloc_wp q
end
end PL
/-! PSS: a, *rest = a tuple. -/
namespace PL
open PySem PySem.Spec PyProof.Rows L2
section
variable {X : Cx} {W : WX} {e : Expr} {es : List Expr} {ma : EM PV} {pos : Pos}
open PySem.W in
theorem star_items {s : Shared} {l : Addr} {items : Array Value} {n : Nat} {Q : List Value → Shared → Prop} (hh : X.A.handled = none) (hl : IsTup s.heap l items) (hn : n ≤ items.size) (hz : items.size ≤ 16384)
    (h : ∀ (h' : Heap) (tk : Nat), (∀ b o, s.heap.get? b = some o → h'.get? b = some o) → Q (items.toList.take n ++ [.ref h'.objs.size]) { s with heap := h'.push { cls := .type "list", data := .seq (items.toList.drop n).toArray }, toks := tk }) :
    wpAny (model X.prog X.w) X.A (unpackItems (.ref l) (n + 1) (some n)) Q X.xe s := by
  have hlt : l ≠ s.heap.objs.size := by obtain ⟨o, ho, _⟩ := hl; exact Nat.ne_of_lt (Heap.lt_size ho)
  unfold unpackItems
  refine wpAny_bind ?_
  unfold notIterableAtAll
  refine wpAny_bind (wpAny_specialOf hl.typeIs slot_tuple_iter.lookup ?_)
  refine wpAny_pure ?_
  simp only [Bool.false_eq_true, if_false]
  refine wpAny_bind (wpAny_holding (iter_tuple hl ?_))
  refine wpAny_bind (wpAny_holding (draw_tuple hlt n 0 _ _ ⟨_, Heap.get?_push_size _ rfl, rfl, rfl⟩ (hl.push _) (by omega) fun h₁ hit₁ hs₁ => ?_))
  have hl₁ : IsTup h₁ l items := (hl.push _).extBut hs₁.extBut hlt
  rw [Nat.zero_add] at hit₁
  have hit₁' := hit₁
  obtain ⟨oi, hoi, _⟩ := hit₁'
  have hl₁' := hl₁
  obtain ⟨ol, hol, _⟩ := hl₁'
  rw [List.drop_zero]
  have hfl : (items.toList.take n).length = n := by rw [List.length_take, Array.length_toList]; omega
  rw [if_neg (show ¬ ((items.toList.take n).length < n) by rw [hfl]; omega)]
  refine wpAny_bind (wpAny_holding (kun_collect (s := { s with heap := h₁ }) (T := "tuple_iterator") (.inr (.inr (.inr rfl))) (Walks.tuple (A := X.A.in1) hh s.heap.objs.size l hlt items) (fun j u st => st.1.typeIs) (k := n) (by omega) ⟨hit₁, hl₁⟩ (Heap.lt_size hoi) (Heap.lt_size hol) (fun h₂ tk hk => ?_) (by rw [sizeLine_eq]; omega)))
  have hrl : (items.toList.drop n).length = items.size - n := by rw [List.length_drop, Array.length_toList]
  have hmid : (items.toList.drop n).length - (n + 1 - 1 - n) = items.size - n := by rw [hrl]; omega
  show wpAny _ _ (if (items.toList.drop n).length < n + 1 - 1 - n then _ else _) _ _ _
  rw [if_neg (by rw [hrl]; omega)]
  show wpAny _ _ (newList ((items.toList.drop n).take ((items.toList.drop n).length - (n + 1 - 1 - n))) >>= fun d => pure (items.toList.take n ++ [d] ++ (items.toList.drop n).drop ((items.toList.drop n).length - (n + 1 - 1 - n)))) _ _ _
  rw [hmid, ← hrl, List.take_length, List.drop_length]
  have he : ∀ b o, s.heap.get? b = some o → h₂.get? b = some o := fun b o e => hk b o (Nat.ne_of_lt (Heap.lt_size e)) (hs₁.extBut b o (Nat.ne_of_lt (Heap.lt_size e)) (Heap.get?_push_of_some _ e))
  refine wpAny_bind (wpAny_newList ?_ (by rw [sizeLine_eq, hrl]; omega))
  refine wpAny_pure ?_
  rw [List.append_nil]
  exact h h₂ tk he
def gStar (K : PySem.W.Frag) (n : Nat) (t : TGs) : TG := fun v σ H Q => ∃ a xs, v = .ref a ∧ SqT K H a xs ∧ n ≤ xs.length ∧ xs.length ≤ 16384 ∧ ∀ p, H p = none → t (xs.take n ++ [.ref p]) σ (upd H p (.lst (xs.drop n))) Q
theorem pgs_as {ts ts' : List Expr} {t : TGs} (h : PGs X ts' t) (e : (assignEach ts X.env).map (·.2) = (assignEach ts' X.env).map (·.2)) : PGs X ts t := ⟨fun pins s σ H vs us Q I r q => by rw [e]; exact h.run pins s σ H vs us Q I r q⟩
theorem pg_star {k n : Nat} {t : TGs} (hc : X.calm = true) (h : PGs X es t) (hn : (assignEach es X.env).length = n + 1) (hst : (assignEach es X.env).findIdx? (·.1) = some n) : PG X (.Tuple es k pos) (gStar X.K n t) := by
  refine ⟨fun pins s σ H v u Q I r q => ?_⟩
  obtain ⟨a, xs, rfl, hx, hl, hz, q⟩ := q
  cases r
  obtain ⟨its, rv, ht, _⟩ := I.tuple hx
  have hlen := rv.length
  unfold assign
  refine wpAny_bind (wpAny_standAt ?_)
  unfold unpack
  simp only [hn, hst]
  refine wpAny_bind (wpAny_holding (star_items (n := n) (I.ok.hd hc) ht (by rw [List.size_toArray]; omega) (by rw [List.size_toArray]; omega) fun h' tk hk => ?_))
  have I2 : Inv X pins σ H { s with heap := h' } := I.kept (t' := s.toks) hk
  have rt : Vals (xs.take n) (its.take n) := rv.take n
  have rd : Vals (xs.drop n) (its.drop n) := rv.drop n
  have I3 := I2.laid (t' := tk) (o := .lst (xs.drop n)) (h' := h'.push { cls := .type "list", data := .seq (its.drop n).toArray }) (a := h'.objs.size) (fun b ob q => Heap.get?_push_of_some _ q) (Nat.le_refl _) ⟨by rw [List.length_drop]; rw [sizeLine_eq]; omega, _, 0, rd, Heap.get?_push_size _ rfl⟩
  exact h.run pins _ σ _ _ _ Q I3 (rt.append (.cons (show RelV (.ref h'.objs.size) (.ref h'.objs.size) from rfl) .nil)) (q _ (I2.hok.fresh (Nat.le_refl _)))
/-- a, .., *rest = e -/
def starS (n : Nat) (m : EM PV) (g : GMs) : SM := fun τ S => bndS (m τ S) τ fun v S1 => match v with
  | .tup xs => if n ≤ xs.length ∧ xs.length ≤ 16384 then (match g (xs.take n ++ [.loc S1.length]) τ with | some τ1 => .nx τ1 (S1 ++ [.lst (xs.drop n)]) | none => .bad) else .bad
  | _ => .bad
theorem rs_star {k n : Nat} {es es' : List Expr} {pos' : Pos} {g : GMs} {sl : List Nat} (hc : X.calm = true) (he : RE X W e ma) (hg : RGs X es' g sl)
    (ee : (assignEach es X.env).map (·.2) = (assignEach es' X.env).map (·.2) := by rfl) (hn : (assignEach es X.env).length = n + 1 := by rfl) (hst : (assignEach es X.env).findIdx? (·.1) = some n := by rfl)
    (hs : swapsWithSole [.Tuple es k pos'] e pos.line X.env = pure false := by rfl) (hw : swappedStores [.Tuple es k pos'] e X.env = pure none := by rfl)
    (h1 : (assignEach [.Tuple es k pos'] X.env).map (·.2) = [assign (.Tuple es k pos') X.env] := by rfl) : RS X W (.Assign [.Tuple es k pos'] e pos) (starS n ma g) :=
  ⟨ps_weak (ps_asg he.pe (pg_star hc (pgs_as hg.pgs ee) hn hst) hs hw h1) fun D σ H ⟨ι, τ, S, r, ρ, pk⟩ => by
    refine ⟨ι, τ, S, r, ρ, (PkS.next (R := rV X) ρ pk).mono fun x H1 ⟨p, ι1, S1, e1, r1, q1, pk1⟩ => ?_⟩
    cases p with
    | tup xs =>
      simp only at pk1
      split at pk1
      · rename_i hb
        obtain ⟨a, vs, rfl, h1, h2⟩ := q1
        refine ⟨a, vs, rfl, h1.seq, by rw [← h2.length]; exact hb.1, by rw [← h2.length]; exact hb.2, fun p hp => ?_⟩
        split at pk1
        · rename_i τ1 hg1
          obtain ⟨E, r4, q4⟩ := r1.new_lst hp (h2.drop n)
          refine ⟨_, τ, _, _, τ1, r4, (ρ.up e1).up E, ?_, hg1, fun σ' ρ' _ => pk1 _ _ σ' E r4 ρ'⟩
          exact ((h2.take n).up E).app (.one q4)
        · exact pk1.elim
      · exact pk1.elim
    | _ => exact pk1.elim⟩
end
section
variable {N : En → Sto → Prop} {T : PV → Sto → Prop} {R : Str → PV → En → Sto → Prop} {τ : En} {S : Sto}
def starO (n : Nat) (g : GMs) (τ : En) : PV → Sto → OS := fun v S1 => match v with
  | .tup xs => if n ≤ xs.length ∧ xs.length ≤ 16384 then (match g (xs.take n ++ [.loc S1.length]) τ with | some τ1 => .nx τ1 (S1 ++ [.lst (xs.drop n)]) | none => .bad) else .bad
  | _ => .bad
@[simp] theorem e_starS (n : Nat) (m : EM PV) (g : GMs) (τ : En) (S : Sto) : starS n m g τ S = bndS (m τ S) τ (starO n g τ) := rfl
theorem star_wp {n : Nat} {g : GMs} {xs : List PV} {τ1 : Nat → En} (h1 : n ≤ xs.length) (h2 : xs.length ≤ 16384) (hg : ∀ l, g (xs.take n ++ [.loc l]) τ = some (τ1 l)) (h : ∀ l S', S'[l]? = some (.lst (xs.drop n)) → Keep [] S S' → S.length ≤ l → N (τ1 l) S') :
    wpS (starO n g τ (.tup xs) S) N T R := by
  simp only [starO, h1, h2, and_self, if_true, hg]
  exact h _ _ app_new .app (Nat.le_refl _)
end
end PL
/-! PDX: split, d[k] = v, list(d), written dicts. -/
namespace PL
open PySem PySem.Spec PyProof.Rows L2
section
variable {X : Cx} {W : WX} {e o f : Expr} {ma mo mf : EM PV} {pos : Pos}
/-- text.split(sep) -/
def splitP : OpM := fun p ps S => match p, ps with
  | .str a, [.str b] => if (b.length == 0) = false ∧ a.length + 2 ≤ 16777216 then some (.loc S.length, S ++ [.lst ((Txt.split a b).map PV.str)]) else none
  | _, _ => none
theorem RpL.strs {K : PySem.W.Frag} {ι : List Addr} {H : Hp} : ∀ ns : List Str, RpL K ι H (ns.map PV.str) (ns.map V.str)
  | [] => rfl
  | n :: ns => ⟨_, _, rfl, rfl, RpL.strs ns⟩
theorem om_split : MtR X "str.split" (gMt X splitP) := by
  intro pins s σ H x xs v us Q I rx rxs ⟨ι, S, p, ps, w, S', rs, rp, rps, hf, k⟩
  unfold splitP at hf
  split at hf
  · rename_i a b
    split at hf
    · rename_i hl
      cases hf
      cases (show x = _ from rp)
      obtain ⟨y, rfl, h2⟩ := rpl1 rps
      cases (show y = _ from h2)
      refine mt_split pins s σ H _ _ v us Q I rx rxs ⟨a, b, rfl, rfl, hl.1, by rw [sizeLine_eq]; exact hl.2, fun p hp => ?_⟩
      obtain ⟨E, r4, q4⟩ := rs.new_lst hp (RpL.strs (Txt.split a b))
      exact k _ _ _ E r4 q4
    · cases hf
  · cases hf
/-- d[k] = v -/
def setdP (o i v : PV) (S : Sto) : Option Sto := match o with
  | .loc l => match S[l]?, keyP i with | some (.dct kvs), some k => if kvs.length < 16777216 then some (S.set l (.dct (putP kvs k v))) else none | _, _ => none
  | _ => none
def setdS (m mo mi : EM PV) : SM := fun τ S => bndS (m τ S) τ fun v S1 => bndS (mo τ S1) τ fun o S2 => bndS (mi τ S2) τ fun i S3 => match setdP o i v S3 with | some S4 => .nx τ S4 | none => .bad
theorem rs_subd {i : Expr} {mi : EM PV} {pos' : Pos} (hu : X.A.units + 1 < cLine) (he : RE X W e ma) (ho : RE X W o mo) (hi : RE X W i mi)
    (hs : swapsWithSole [.Subscript o i pos'] e pos.line X.env = pure false := by rfl) (hw : swappedStores [.Subscript o i pos'] e X.env = pure none := by rfl)
    (h1 : (assignEach [.Subscript o i pos'] X.env).map (·.2) = [assign (.Subscript o i pos') X.env] := by rfl)
    (ha : ∀ v, assign (.Subscript o i pos') X.env v = (do
      let ov ← holding [v] (eval o X.env)
      let iv ← holding [v, ov] (eval i X.env)
      standAt pos'
      holding [v, ov, iv] (setItem ov iv v)
      release [v, ov, iv] []) := by intro _; rfl) : RS X W (.Assign [.Subscript o i pos'] e pos) (setdS ma mo mi) := by
  refine ⟨ps_weak (ps_asg he.pe (pg_sub ho.pe hi.pe (set_dict hu) ha) hs hw h1) fun D σ H h => ?_⟩
  obtain ⟨ι, τ, S, r, ρ, pk⟩ := h
  refine ⟨ι, τ, S, r, ρ, (PkS.next (R := rV X) ρ pk).mono fun x H1 ⟨p, ι1, S1, e1, r1, q1, pk1⟩ => ?_⟩
  refine ⟨ι1, τ, S1, r1, ρ.up e1, (PkS.next (R := rV X) (ρ.up e1) pk1).mono fun y H2 ⟨q, ι2, S2, e2, r2, q2, pk2⟩ => ?_⟩
  refine ⟨ι2, τ, S2, r2, (ρ.up e1).up e2, (PkS.next (R := rV X) ((ρ.up e1).up e2) pk2).mono fun z H3 ⟨i, ι3, S3, e3, r3, q3, pk3⟩ => ?_⟩
  have ρ3 := ((ρ.up e1).up e2).up e3
  have q1 := (q1.up e2).up e3
  have q2 := q2.up e3
  unfold setdP at pk3
  split at pk3
  · rename_i S4 hS
    split at hS
    · split at hS
      · rename_i kvs k eS ek
        split at hS
        · rename_i hl
          cases hS
          obtain ⟨a, rfl, h1⟩ := q2
          obtain ⟨vs, h2, h3⟩ := r3.obj _ a _ h1 eS
          obtain ⟨E, r4⟩ := r3.wdct h1 (h3.put (k := k) q1)
          exact ⟨a, _, rfl, .inl ⟨vs, k, h2, keyP_rp ek q3, by rw [← h3.length, sizeLine_eq]; exact hl, rfl⟩, pk3 _ _ _ E r4 (ρ3.up E)⟩
        · cases hS
      · cases hS
    · cases hS
  · exact pk3.elim
/-- list(d) -/
def kPV : Key → PV | .inl i => .int i | .inr x => .str x
def keysLP (p : PV) (S : Sto) : Option (PV × Sto) := match p with
  | .loc l => match S[l]? with | some (.dct kvs) => some (.loc S.length, S ++ [.lst (kvs.map fun kv => kPV kv.1)]) | _ => none
  | _ => none
theorem RpF.keysL {K : PySem.W.Frag} {ι : List Addr} {H : Hp} : ∀ {kvs : List (Key × PV)} {ws : List (Key × V)}, RpF K ι H kvs ws → RpL K ι H (kvs.map fun kv => kPV kv.1) (ws.map fun kv => kV kv.1)
  | [], ws, h => by cases (show ws = [] from h); rfl
  | (k, x) :: r, ws, h => by
    obtain ⟨v, w, rfl, h1, h2⟩ := h
    exact ⟨_, _, rfl, by cases k <;> rfl, RpF.keysL h2⟩
theorem cr_listD (hc : X.calm = true) : CallR X (.type "list") (gCall X (on1 keysLP)) := cr_on1 fun pins s σ H us Q ι S p x v S' I r rs rp hf k => by
  unfold keysLP at hf
  split at hf
  · split at hf
    · rename_i kvs eS
      cases hf
      obtain ⟨a, rfl, h1⟩ := rp
      obtain ⟨vs, h2, h3⟩ := rs.obj _ a _ h1 eS
      refine call_list_dK hc pins s σ H _ us Q I r ⟨a, vs, rfl, h2, fun l hl => ?_⟩
      obtain ⟨E, r4, q4⟩ := rs.new_lst hl h3.keysL
      exact k _ _ _ E r4 q4
    · cases hf
  · cases hf
/-! ### written dicts -/
def newDO (S : Sto) : Out PV := .ok (.loc S.length) (S ++ [.dct []])
def pairsM : List (EM PV × EM PV) → En → Sto → Out (List (PV × PV))
  | [], _, S => .ok [] S
  | (a, b) :: r, τ, S => bnd (a τ S) fun x S1 => bnd (b τ S1) fun y S2 => bnd (pairsM r τ S2) fun ps S3 => .ok ((x, y) :: ps) S3
def keysOf : List (PV × PV) → Option (List (Key × PV))
  | [] => some []
  | (k, v) :: r => (keyP k).bind fun kk => (keysOf r).map fun ks => (kk, v) :: ks
def isD0 (l : Nat) (S : Sto) : Bool := match S[l]? with | some (.dct []) => true | _ => false
def dispO (p : PV) (ps : List (PV × PV)) (S : Sto) : Out PV := match p, keysOf ps with
  | .loc l, some kvs => if isD0 l S = true ∧ kvs.length ≤ 15 then .ok (.loc l) (S.set l (.dct (mergeP [] kvs))) else .bad
  | _, _ => .bad
def disp1 (kes : List (EM PV × EM PV)) (τ : En) (p : PV) (S : Sto) : Out PV := bnd (pairsM kes τ S) (dispO p)
def dispM (kes : List (EM PV × EM PV)) : EM PV := fun τ S => bnd (newDO S) (disp1 kes τ)
abbrev rP (X : Cx) : RR (List (PV × PV)) (List (V × V)) := fun ι H ps xs => RpL X.K ι H (ps.map (·.1)) (xs.map (·.1)) ∧ RpL X.K ι H (ps.map (·.2)) (xs.map (·.2))
def gP (X : Cx) (W : WX) (kes : List (EM PV × EM PV)) : List (TE × TE) := kes.map fun ab => (gE X W (rV X) ab.1, gE X W (rV X) ab.2)
theorem pairs_read : ∀ (kes : List (EM PV × EM PV)) (σ : L2.St) (ι : List Addr) (H : Hp) (τ : En) (S : Sto) (Q : List (V × V) → Hp → Prop), RSt X.K X.mg ι H S → REn X.K ι H τ σ → Pk X W (rP X) σ Q ι H (pairsM kes τ S) → tPairs (gP X W kes) σ H Q
  | [], σ, ι, H, τ, S, Q, r, ρ, pk => pk ι H [] .refl r ⟨rfl, rfl⟩
  | (a, b) :: kes, σ, ι, H, τ, S, Q, r, ρ, pk =>
    ⟨ι, τ, S, r, ρ, (Pk.next (R := rV X) pk).mono fun x H1 ⟨p, ι1, S1, e1, r1, q1, pk1⟩ =>
      ⟨ι1, τ, S1, r1, ρ.up e1, (Pk.next (R := rV X) pk1).mono fun y H2 ⟨q, ι2, S2, e2, r2, q2, pk2⟩ =>
        pairs_read kes σ ι2 H2 τ S2 _ r2 ((ρ.up e1).up e2) ((Pk.next (R := rP X) pk2).mono fun ps H3 ⟨w, ι3, S3, e3, r3, q3, pk3⟩ =>
          pk3 ι3 H3 _ .refl r3 ⟨⟨_, _, rfl, (q1.up e2).up e3, q3.1⟩, ⟨_, _, rfl, q2.up e3, q3.2⟩⟩)⟩⟩
theorem keysOf_rp {K : PySem.W.Frag} {ι : List Addr} {H : Hp} : ∀ {ps : List (PV × PV)} {kvs : List (Key × PV)} {xs : List (V × V)}, keysOf ps = some kvs → RpL K ι H (ps.map (·.1)) (xs.map (·.1)) → RpL K ι H (ps.map (·.2)) (xs.map (·.2)) →
    ∃ ws : List (Key × V), xs = ws.map (fun kv => (kV kv.1, kv.2)) ∧ RpF K ι H kvs ws
  | [], kvs, xs, h, r1, _ => by
    cases h
    have : xs = [] := by
      have : xs.map (·.1) = [] := r1
      simpa using this
    subst this
    exact ⟨[], rfl, rfl⟩
  | (k, v) :: ps, kvs, xs, h, r1, r2 => by
    simp only [keysOf, Option.bind_eq_some_iff, Option.map_eq_some_iff] at h
    obtain ⟨kk, hk, ks, hks, rfl⟩ := h
    cases xs with
    | nil => obtain ⟨_, _, e, _⟩ := r1; cases e
    | cons x xs =>
      obtain ⟨_, _, e1, a1, a2⟩ := r1
      obtain ⟨_, _, e2, b1, b2⟩ := r2
      simp only [List.map_cons, List.cons.injEq] at e1 e2
      obtain ⟨rfl, rfl⟩ := e1
      obtain ⟨rfl, rfl⟩ := e2
      obtain ⟨ws, rfl, w2⟩ := keysOf_rp hks a2 b2
      have := keyP_rp hk a1
      obtain ⟨x1, x2⟩ := x
      simp only at this
      subst this
      exact ⟨(kk, x2) :: ws, rfl, _, _, rfl, b1, w2⟩
theorem re_disp {keys : List (Option Expr)} {values : List Expr} {kes : List (EM PV × EM PV)} (h : PPs X pos keys values (gP X W kes)) (hall : keys.all (·.isSome) = true := by rfl) (hl : keys.length = values.length := by rfl) (h0 : keys ≠ [] := by nofun) (h15 : keys.length ≤ 15 := by decide) :
    RE X W (.Dict keys values pos) (dispM kes) := by
  refine ⟨pe_weak (pe_disp h hall hl h0 h15) fun σ H Q ⟨ι, τ, S, r, ρ, pk⟩ p hp => ?_⟩
  obtain ⟨E, r2, q2⟩ := r.new_dct hp (xs := []) (vs := []) rfl
  have pk : Pk X W (rV X) σ Q ι H (disp1 kes τ (.loc S.length) (S ++ [.dct []])) := pk
  refine pairs_read kes σ _ _ τ _ _ r2 (ρ.up E) ((Pk.next (R := rP X) (pk.up E)).mono fun xs H2 ⟨ps, ι2, S2, e2, r3, q3, pk3⟩ => ?_)
  unfold dispO at pk3
  split at pk3
  · rename_i l kvs el ek
    cases el
    split at pk3
    · rename_i hb
      obtain ⟨h1, h2⟩ := hb
      unfold isD0 at h1
      split at h1
      · rename_i eS
        obtain ⟨a, ea, hι⟩ := q2.up e2
        cases ea
        obtain ⟨vs, hv, rv⟩ := r3.obj _ p _ hι eS
        cases (show vs = [] from rv)
        obtain ⟨ws, rfl, w2⟩ := keysOf_rp ek q3.1 q3.2
        obtain ⟨E4, r4⟩ := r3.wdct hι (w2.merge (show RpF X.K ι2 H2 [] [] from rfl))
        exact ⟨hv, ws, rfl, by rw [← w2.length]; exact h2, pk3 _ _ _ E4 r4 ((q2.up e2).up E4)⟩
      · cases h1
    · exact pk3.elim
  · exact pk3.elim
theorem rps_nil : PPs X pos [] [] (gP X W []) := pps_nil
theorem rps_cons {k v : Expr} {ks : List (Option Expr)} {vs : List Expr} {a b : EM PV} {kes : List (EM PV × EM PV)} (hk : RE X W k a) (hv : RE X W v b) (h : PPs X pos ks vs (gP X W kes)) : PPs X pos (some k :: ks) (v :: vs) (gP X W ((a, b) :: kes)) := pps_cons hk.pe hv.pe h
end
section
variable {P : PV → Sto → Prop} {R : Str → PV → Sto → Prop} {τ : En} {S : Sto}
@[simp] theorem e_dispM (kes : List (EM PV × EM PV)) (τ : En) (S : Sto) : dispM kes τ S = bnd (newDO S) (disp1 kes τ) := rfl
@[simp] theorem e_disp1 (kes : List (EM PV × EM PV)) (τ : En) (p : PV) (S : Sto) : disp1 kes τ p S = bnd (pairsM kes τ S) (dispO p) := rfl
def pairs1 (b : EM PV) (r : List (EM PV × EM PV)) (τ : En) (x : PV) (S1 : Sto) : Out (List (PV × PV)) := bnd (b τ S1) fun y S2 => bnd (pairsM r τ S2) fun ps S3 => .ok ((x, y) :: ps) S3
def pairs2 (x : PV) (r : List (EM PV × EM PV)) (τ : En) (y : PV) (S2 : Sto) : Out (List (PV × PV)) := bnd (pairsM r τ S2) fun ps S3 => .ok ((x, y) :: ps) S3
def pairs3 (x y : PV) (ps : List (PV × PV)) (S3 : Sto) : Out (List (PV × PV)) := .ok ((x, y) :: ps) S3
@[simp] theorem e_pairs0 (τ : En) (S : Sto) : pairsM [] τ S = .ok [] S := rfl
@[simp] theorem e_pairsM (a b : EM PV) (r : List (EM PV × EM PV)) (τ : En) (S : Sto) : pairsM ((a, b) :: r) τ S = bnd (a τ S) (pairs1 b r τ) := rfl
@[simp] theorem e_pairs1 (b : EM PV) (r : List (EM PV × EM PV)) (τ : En) (x : PV) (S1 : Sto) : pairs1 b r τ x S1 = bnd (b τ S1) (pairs2 x r τ) := rfl
@[simp] theorem e_pairs2 (x : PV) (r : List (EM PV × EM PV)) (τ : En) (y : PV) (S2 : Sto) : pairs2 x r τ y S2 = bnd (pairsM r τ S2) (pairs3 x y) := rfl
@[simp] theorem e_pairs3 (x y : PV) (ps : List (PV × PV)) (S3 : Sto) : pairs3 x y ps S3 = .ok ((x, y) :: ps) S3 := rfl
theorem newD_wp (h : ∀ n S', S'[n]? = some (.dct []) → Keep [] S S' → S.length ≤ n → P (.loc n) S') : wp (newDO S) P R := alloc_wp h
theorem disp_wp {l : Nat} {ps : List (PV × PV)} {kvs : List (Key × PV)} (h1 : S[l]? = some (.dct [])) (h2 : keysOf ps = some kvs) (h3 : kvs.length ≤ 15) (h : P (.loc l) (S.set l (.dct (mergeP [] kvs)))) : wp (dispO (.loc l) ps S) P R := by
  simp only [dispO, h2, isD0, h1, h3, and_self, if_true, wp_ok]
  exact h
@[simp] theorem setdP_loc (l : Nat) (i v : PV) : setdP (.loc l) i v S = match S[l]?, keyP i with | some (.dct kvs), some k => if kvs.length < 16777216 then some (S.set l (.dct (putP kvs k v))) else none | _, _ => none := rfl
def setd1 (mo mi : EM PV) (τ : En) (v : PV) (S1 : Sto) : OS := bndS (mo τ S1) τ fun o S2 => bndS (mi τ S2) τ fun i S3 => match setdP o i v S3 with | some S4 => .nx τ S4 | none => .bad
def setd2 (mi : EM PV) (τ : En) (v o : PV) (S2 : Sto) : OS := bndS (mi τ S2) τ fun i S3 => match setdP o i v S3 with | some S4 => .nx τ S4 | none => .bad
def setd3 (τ : En) (v o i : PV) (S3 : Sto) : OS := match setdP o i v S3 with | some S4 => .nx τ S4 | none => .bad
@[simp] theorem e_setdS (m mo mi : EM PV) (τ : En) (S : Sto) : setdS m mo mi τ S = bndS (m τ S) τ (setd1 mo mi τ) := rfl
@[simp] theorem e_setd1 (mo mi : EM PV) (τ : En) (v : PV) (S1 : Sto) : setd1 mo mi τ v S1 = bndS (mo τ S1) τ (setd2 mi τ v) := rfl
@[simp] theorem e_setd2 (mi : EM PV) (τ : En) (v o : PV) (S1 : Sto) : setd2 mi τ v o S1 = bndS (mi τ S1) τ (setd3 τ v o) := rfl
@[simp] theorem e_setd3 (τ : En) (v o i : PV) (S1 : Sto) : setd3 τ v o i S1 = match setdP o i v S1 with | some S4 => .nx τ S4 | none => .bad := rfl
theorem split_wp {a b : Str} {ys : List Str} (h1 : (b.length == 0) = false) (h2 : a.length + 2 ≤ 16777216) (h3 : Txt.split a b = ys) (h : ∀ n S', S'[n]? = some (.lst (ys.map PV.str)) → Keep [] S S' → S.length ≤ n → P (.loc n) S') : wp (lift (splitP (.str a) [.str b] S)) P R := by
  simp only [splitP, h1, h2, and_self, if_true, h3, lift_some, wp_ok]
  exact alloc_wp h
theorem keysL_wp {l : Nat} {kvs : List (Key × PV)} (h1 : S[l]? = some (.dct kvs)) (h : ∀ n S', S'[n]? = some (.lst (kvs.map fun kv => kPV kv.1)) → Keep [] S S' → S.length ≤ n → P (.loc n) S') : wp (lift (keysLP (.loc l) S)) P R := by
  simp only [keysLP, h1, lift_some, wp_ok]
  exact alloc_wp h
end
end PL
/-! PKW: f(k = v, ..), f(e, .., k = v), isinstance(x, (A, B)). -/
namespace PL
open PySem PySem.Spec PyProof.Rows L2
section
variable {X : Cx} {W : WX} {a e o f : Expr} {es : List Expr} {ma mo mf : EM PV} {mas mks : EM (List PV)} {pos : Pos} {kws : List Keyword}
theorem pe_callKw {CX : CXT} {x : Str} {p : Pos} {k : Nat} {f : Addr} {fd : FuncData} {ps ks : List Str} {sp : Sp} {E : L2.St → XK} {t : TA} {g : List Value → List Value → List Value} {gV : List V → List V → List V} (F : FnOk X.prog X.w X.K X.mg X.base CX k f fd ps sp) (hr : Room k X.A) (hg : Gl X x) (hm : X.mg x = some (.ref f)) (hk : PySem.W.keepIn X.K (.ref f) = true) (hb : KBinds X.K fd ps ks g gV) (hx : ∀ σ, PassesAt CX X σ (E σ))
    (hkw : PK X kws t) (hall : (backToKw pos (keywordEach kws X.env)).all (·.1.isSome) = true := by rfl) (hks : (backToKw pos (keywordEach kws X.env)).filterMap (·.1) = ks := by rfl)
    (hdb : (x == ("__debug__" : Str)) = false := by decide)
    (hpl : ((backTo pos (starEach [] X.env)).any (·.1) || (backToKw pos (keywordEach kws X.env)).any (·.1.isNone)) = false := by rfl) :
    PE X (.Call (.Name x p) [] kws pos) (fun σ H Q => t σ H fun zs H1 => sp (gV [] zs) H1 Q (E σ)) := by
  refine ⟨fun pins s σ H Q I h => ?_⟩
  refine wpAny_Call_Name_kw (ld_glob I hg hm ?_ hdb)
  refine PySem.W.callWith_KW0 (first := []) (h₀ := X.base) I.ok.mod.kin hk hall (thn (hkw.run pos pins s σ H _ I h) fun ws s2 ⟨zs, H2, I2, r, q2⟩ => ⟨I2.kIn, ?_⟩) hpl
  rw [hks, List.append_nil]
  have r1 : Vals ([] : List V) ([] : List Value) := .nil
  have r2 := hb.rel r1 r
  have hl : (g [] ws).length = ps.length := by rw [← r2.length]; exact F.len _ _ _ _ q2
  refine wpAny_call (codeAny_mono (F.run X.A X.stack s2 H2 ⟨[], ks.zip ws⟩ (g [] ws) (gV [] zs) Q (E σ) hr I2.env0 (hb.to s2 [] ws I2.kIn hl) r2 q2) fun r s' hq => ?_)
  cases r with
  | error e => exact hx σ pins H2 s2 e s' I2 hq
  | ok fl =>
    cases fl with
    | ret u => exact I2.after hq
    | next => exact False.elim hq
    | brk => exact False.elim hq
    | cont => exact False.elim hq
theorem pe_callKm {CX : CXT} {x : Str} {p : Pos} {k : Nat} {f : Addr} {fd : FuncData} {ps ks : List Str} {sp : Sp} {E : L2.St → XK} {t tk : TA} {g : List Value → List Value → List Value} {gV : List V → List V → List V} (F : FnOk X.prog X.w X.K X.mg X.base CX k f fd ps sp) (hr : Room k X.A) (hg : Gl X x) (hm : X.mg x = some (.ref f)) (hk : PySem.W.keepIn X.K (.ref f) = true) (hb : KBinds X.K fd ps ks g gV) (hx : ∀ σ, PassesAt CX X σ (E σ))
    (ha : PA X (e :: es) t) (hkw : PK X kws tk) (hall : (backToKw pos (keywordEach kws X.env)).all (·.1.isSome) = true := by rfl) (hks : (backToKw pos (keywordEach kws X.env)).filterMap (·.1) = ks := by rfl)
    (hdb : (x == ("__debug__" : Str)) = false := by decide) (he : starEach (e :: es) X.env = (false, eval e X.env) :: starEach es X.env := by rfl)
    (hpl : ((backTo pos (starEach (e :: es) X.env)).any (·.1) || (backToKw pos (keywordEach kws X.env)).any (·.1.isNone)) = false := by rfl) :
    PE X (.Call (.Name x p) (e :: es) kws pos) (fun σ H Q => t σ H fun vs H1 => tk σ H1 fun zs H2 => sp (gV vs zs) H2 Q (E σ)) := by
  refine ⟨fun pins s σ H Q I h => ?_⟩
  refine wpAny_Call_Name_kw (ld_glob I hg hm ?_ hdb)
  refine PySem.W.callWith_KW (first := []) (h₀ := X.base) I.ok.mod.kin hk hall (thn (ha.run pos pins s σ H _ I h) fun us s1 ⟨vs, H1, I1, r1, q1⟩ => thn (hkw.run pos pins s1 σ H1 _ I1 q1) fun ws s2 ⟨zs, H2, I2, r, q2⟩ => ⟨I2.kIn, ?_⟩) hpl he
  rw [hks, List.nil_append]
  have r2 := hb.rel r1 r
  have hl : (g us ws).length = ps.length := by rw [← r2.length]; exact F.len _ _ _ _ q2
  refine wpAny_call (codeAny_mono (F.run X.A X.stack s2 H2 ⟨us, ks.zip ws⟩ (g us ws) (gV vs zs) Q (E σ) hr I2.env0 (hb.to s2 us ws I2.kIn hl) r2 q2) fun r s' hq => ?_)
  cases r with
  | error e => exact hx σ pins H2 s2 e s' I2 hq
  | ok fl =>
    cases fl with
    | ret u => exact I2.after hq
    | next => exact False.elim hq
    | brk => exact False.elim hq
    | cont => exact False.elim hq
/-- f(k = v, ..): g puts the values in the def's order -/
def callKD (F : FM) (g : List PV → List PV) (ms : EM (List PV)) : EM PV := fun τ S => bnd (ms τ S) fun ps S1 => F (g ps) S1
theorem re_callKw {x : Str} {p : Pos} {n k : Nat} {F : FM} {f : Addr} {fd : FuncData} {ps ks : List Str} {g : List Value → List Value → List Value} {gV : List V → List V → List V} {gP : List PV → List PV} (G : FnOk X.prog X.w X.K X.mg X.base (L2.CX X.prog X.w) k f fd ps (spD X.K X.mg n F)) (hr : Room k X.A) (hg : Gl X x) (hm : X.mg x = some (.ref f)) (hk : PySem.W.keepIn X.K (.ref f) = true) (hb : KBinds X.K fd ps ks g gV)
    (tk : Takes X W) (hgp : ∀ ι H qs zs, qs.length = n → RpL X.K ι H qs zs → RpL X.K ι H (gP qs) (gV [] zs) ∧ (gP qs).length = n)
    (ha : RK X W kws mas) (hn : ∀ τ S qs S', mas τ S = .ok qs S' → qs.length = n) (hall : (backToKw pos (keywordEach kws X.env)).all (·.1.isSome) = true := by rfl) (hks : (backToKw pos (keywordEach kws X.env)).filterMap (·.1) = ks := by rfl)
    (hdb : (x == ("__debug__" : Str)) = false := by decide)
    (hpl : ((backTo pos (starEach [] X.env)).any (·.1) || (backToKw pos (keywordEach kws X.env)).any (·.1.isNone)) = false := by rfl) :
    RE X W (.Call (.Name x p) [] kws pos) (callKD F gP mas) := by
  refine ⟨pe_weak (pe_callKw (E := WE W) G hr hg hm hk hb (fun σ => passAt tk σ) ha.pk hall hks hdb hpl) fun σ H Q ⟨ι, τ, S, r, ρ, pk⟩ => ⟨ι, τ, S, r, ρ, ?_⟩⟩
  have hn' := hn τ S
  unfold callKD at pk
  cases hm' : mas τ S with
  | bad => rw [hm'] at pk; exact pk.elim
  | er c p S' => rw [hm'] at pk; exact pk
  | ok qs S1 =>
    have hl := hn' qs S1 hm'
    rw [hm'] at pk
    show ∀ ι' H' x, Ext ι H ι' H' → RSt X.K X.mg ι' H' S1 → RpL X.K ι' H' qs x → spD X.K X.mg n F (gV [] x) H' Q (WE W σ)
    intro ι' H' zs e' r' q'
    obtain ⟨qv, ln⟩ := hgp ι' H' qs zs hl q'
    exact call_wish r' qv ln (Pk.up (o := F (gP qs) S1) pk e')
/-- f(e, .., k = v, ..) -/
def callKM (F : FM) (g : List PV → List PV → List PV) (ms ks : EM (List PV)) : EM PV := fun τ S => bnd (ms τ S) fun ps S1 => bnd (ks τ S1) fun qs S2 => F (g ps qs) S2
theorem re_callKm {x : Str} {p : Pos} {n i j k : Nat} {F : FM} {f : Addr} {fd : FuncData} {ps ks : List Str} {g : List Value → List Value → List Value} {gV : List V → List V → List V} {gP : List PV → List PV → List PV} (G : FnOk X.prog X.w X.K X.mg X.base (L2.CX X.prog X.w) k f fd ps (spD X.K X.mg n F)) (hr : Room k X.A) (hg : Gl X x) (hm : X.mg x = some (.ref f)) (hk : PySem.W.keepIn X.K (.ref f) = true) (hb : KBinds X.K fd ps ks g gV)
    (tk : Takes X W) (hgp : ∀ ι H rs ws qs zs, rs.length = i → qs.length = j → RpL X.K ι H rs ws → RpL X.K ι H qs zs → RpL X.K ι H (gP rs qs) (gV ws zs) ∧ (gP rs qs).length = n)
    (ha : RA X W (e :: es) mas) (hn : ∀ τ S qs S', mas τ S = .ok qs S' → qs.length = i) (hkw : RK X W kws mks) (hn2 : ∀ τ S qs S', mks τ S = .ok qs S' → qs.length = j) (hall : (backToKw pos (keywordEach kws X.env)).all (·.1.isSome) = true := by rfl) (hks : (backToKw pos (keywordEach kws X.env)).filterMap (·.1) = ks := by rfl)
    (hdb : (x == ("__debug__" : Str)) = false := by decide) (he : starEach (e :: es) X.env = (false, eval e X.env) :: starEach es X.env := by rfl)
    (hpl : ((backTo pos (starEach (e :: es) X.env)).any (·.1) || (backToKw pos (keywordEach kws X.env)).any (·.1.isNone)) = false := by rfl) :
    RE X W (.Call (.Name x p) (e :: es) kws pos) (callKM F gP mas mks) := by
  refine ⟨pe_weak (pe_callKm (E := WE W) G hr hg hm hk hb (fun σ => passAt tk σ) ha.pa hkw.pk hall hks hdb he hpl) fun σ H Q ⟨ι, τ, S, r, ρ, pk⟩ => ⟨ι, τ, S, r, ρ, ?_⟩⟩
  have hn' := hn τ S
  unfold callKM at pk
  cases hm' : mas τ S with
  | bad => rw [hm'] at pk; exact pk.elim
  | er c p S' => rw [hm'] at pk; exact pk
  | ok rs S1 =>
    have hl := hn' rs S1 hm'
    rw [hm'] at pk
    show ∀ ι' H' x, Ext ι H ι' H' → RSt X.K X.mg ι' H' S1 → RpL X.K ι' H' rs x → gE X W (rL X) mks σ H' fun zs H2 => spD X.K X.mg n F (gV x zs) H2 Q (WE W σ)
    intro ι1 H1 ws e1 r1 q1
    refine ⟨ι1, τ, S1, r1, ρ.up e1, ?_⟩
    have pk : Pk X W (rV X) σ Q ι1 H1 (bnd (mks τ S1) fun qs S2 => F (gP rs qs) S2) := Pk.up (o := bnd (mks τ S1) fun qs S2 => F (gP rs qs) S2) pk e1
    have hn2' := hn2 τ S1
    cases hm2 : mks τ S1 with
    | bad => rw [hm2] at pk; exact pk.elim
    | er c p S' => rw [hm2] at pk; exact pk
    | ok qs S2 =>
      have hl2 := hn2' qs S2 hm2
      rw [hm2] at pk
      show ∀ ι' H' x, Ext ι1 H1 ι' H' → RSt X.K X.mg ι' H' S2 → RpL X.K ι' H' qs x → spD X.K X.mg n F (gV ws x) H' Q (WE W σ)
      intro ι' H' zs e' r' q'
      obtain ⟨qv, ln⟩ := hgp ι' H' rs ws qs zs hl hl2 (q1.up e') q'
      exact call_wish r' qv ln (Pk.up (o := F (gP rs qs) S2) pk e')
end
end PL
/-! PALL: all of the library. -/
namespace K15
open PySem PySem.Spec PyProof.Rows L2 PL
def topS (i : Nat) : Stmt := PySem.Challenge.pw_codeasks_k15_what_comes_behind.main.body.getD i (.Pass ⟨0, 0, 0, 0⟩)
theorem sc_is_name : FnScope ["text", "letter"] ["text"] (defScope (topS 8)) := ⟨rfl, rfl, rfl, by decide +kernel, rfl, by decide +kernel, by decide +kernel⟩
theorem sc_each_row : FnScope ["rows", "found", "row"] ["rows"] (defScope (topS 9)) := ⟨rfl, rfl, rfl, by decide +kernel, rfl, by decide +kernel, by decide +kernel⟩
theorem sc_numbered : FnScope ["rows", "at", "row"] ["rows"] (defScope (topS 10)) := ⟨rfl, rfl, rfl, by decide +kernel, rfl, by decide +kernel, by decide +kernel⟩
theorem sc_size_of : FnScope ["rows"] ["rows"] (defScope (topS 11)) := ⟨rfl, rfl, rfl, by decide +kernel, rfl, by decide +kernel, by decide +kernel⟩
theorem sc_names_asked : FnScope ["row", "value"] ["row"] (defScope (topS 12)) := ⟨rfl, rfl, rfl, by decide +kernel, rfl, by decide +kernel, by decide +kernel⟩
theorem sc_call_of : FnScope ["row", "word", "definition", "names"] ["row"] (defScope (topS 13)) := ⟨rfl, rfl, rfl, by decide +kernel, rfl, by decide +kernel, by decide +kernel⟩
theorem sc_names_in : FnScope ["row"] ["row"] (defScope (topS 14)) := ⟨rfl, rfl, rfl, by decide +kernel, rfl, by decide +kernel, by decide +kernel⟩
theorem sc_is_sound : FnScope ["definition", "others", "every", "names", "calls", "name", "parameters", "rows", "row", "one", "called", "given"] ["definition", "others"] (defScope (topS 15)) := ⟨rfl, rfl, rfl, by decide +kernel, rfl, by decide +kernel, by decide +kernel⟩
theorem sc_Program_init : FnScope ["self", "definitions", "others", "met", "definition", "name", "parameters", "rows"] ["self", "definitions"] (defScope (inClass (topS 16) 0)) := ⟨rfl, rfl, rfl, by decide +kernel, rfl, by decide +kernel, by decide +kernel⟩
theorem sc_Program_definitions : FnScope ["self"] ["self"] (defScope (inClass (topS 16) 1)) := ⟨rfl, rfl, rfl, by decide +kernel, rfl, by decide +kernel, by decide +kernel⟩
theorem sc_facts_of_value : FnScope ["title", "number", "value", "word", "handed", "rest", "name", "at"] ["title", "number", "value"] (defScope (topS 19)) := ⟨rfl, rfl, rfl, by decide +kernel, rfl, by decide +kernel, by decide +kernel⟩
theorem sc_facts_of_row : FnScope ["title", "number", "row"] ["title", "number", "row"] (defScope (topS 20)) := ⟨rfl, rfl, rfl, by decide +kernel, rfl, by decide +kernel, by decide +kernel⟩
theorem sc_nexts : FnScope ["rows", "number", "behind", "found", "at", "row", "further", "then", "other"] ["rows", "number", "behind"] (defScope (topS 21)) := ⟨rfl, rfl, rfl, by decide +kernel, rfl, by decide +kernel, by decide +kernel⟩
theorem sc_tables : FnScope ["program", "found", "title", "parameters", "rows", "number", "row", "at", "name", "one", "other"] ["program"] (defScope (topS 22)) := ⟨rfl, rfl, rfl, by decide +kernel, rfl, by decide +kernel, by decide +kernel⟩
theorem sc__law_deck : FnScope ["_law_script", "_law_great", "_law_fold", "_law_cell"] ["_law_script"] (defScope (topS 24)) := ⟨rfl, rfl, rfl, by decide +kernel, rfl, by decide +kernel, by decide +kernel⟩
theorem sc__law_take : FnScope ["_law_deck_here", "_law_many", "_law_k", "_law_mixed", "_law_drawn"] ["_law_deck_here", "_law_many"] (defScope (topS 25)) := ⟨rfl, rfl, rfl, by decide +kernel, rfl, by decide +kernel, by decide +kernel⟩
theorem sc__law_size : FnScope ["_law_rows", "_law_many", "_law_row"] ["_law_rows"] (defScope (topS 26)) := ⟨rfl, rfl, rfl, by decide +kernel, rfl, by decide +kernel, by decide +kernel⟩
theorem sc__law_block : FnScope ["_law_deck_here", "_law_room", "_law_deep", "_law_rows", "_law_k", "_law_pick"] ["_law_deck_here", "_law_room", "_law_deep"] (defScope (topS 27)) := ⟨rfl, rfl, rfl, by decide +kernel, rfl, by decide +kernel, by decide +kernel⟩
theorem sc__law_back : FnScope ["_law_rows", "_law_number", "_law_behind", "_law_found", "_law_ends", "_law_row", "_law_middle"] ["_law_rows", "_law_number", "_law_behind", "_law_found"] (defScope (topS 28)) := ⟨rfl, rfl, rfl, by decide +kernel, rfl, by decide +kernel, by decide +kernel⟩
theorem sc_law : FnScope ["_law_script", "_law_deck_here", "_law_k", "_law_book", "_law_due", "_law_some", "_law_title", "_law_heads", "_law_rows", "_law_found", "_law_fact", "_law_one", "_law_other"] ["_law_script"] (defScope (topS 29)) := ⟨rfl, rfl, rfl, by decide +kernel, rfl, by decide +kernel, by decide +kernel⟩
theorem sc_einit : FnScope ["self", "what"] ["self", "what"] (defScope (inClass (topS 1) 0)) := ⟨rfl, rfl, rfl, by decide +kernel, rfl, by decide +kernel, by decide +kernel⟩
theorem bo_einit : defBody (inClass (topS 1) 0) = [.Assign [.Attribute (.Name "self" ⟨5, 8, 5, 12⟩) "what" ⟨5, 8, 5, 17⟩] (.Name "what" ⟨5, 20, 5, 24⟩) ⟨5, 8, 5, 24⟩] := rfl
def es_NAMED : List (Str × PV) := [("copy", .str "copies"), ("add", .str "adds"), ("clean", .str "cleans"), ("send", .str "sends"), ("give", .str "gives"), ("if", .str "asks")]
structure Tx (K : PySem.W.Frag) (mg : Str → Option Value) (w : World) where
  t_is_name : DG K mg "is_name" (topS 8) ["text"]
  t_each_row : DG K mg "each_row" (topS 9) ["rows"]
  t_numbered : DG K mg "numbered" (topS 10) ["rows"]
  t_size_of : DG K mg "size_of" (topS 11) ["rows"]
  t_names_asked : DG K mg "names_asked" (topS 12) ["row"]
  t_call_of : DG K mg "call_of" (topS 13) ["row"]
  t_names_in : DG K mg "names_in" (topS 14) ["row"]
  t_is_sound : DG K mg "is_sound" (topS 15) ["definition", "others"]
  t_Program_init : DF K "__init__" "Program.__init__" (inClass (topS 16) 0) ["self", "definitions"]
  t_Program_definitions : DF K "definitions" "Program.definitions" (inClass (topS 16) 1) ["self"]
  t_facts_of_value : DG K mg "facts_of_value" (topS 19) ["title", "number", "value"]
  t_facts_of_row : DG K mg "facts_of_row" (topS 20) ["title", "number", "row"]
  t_nexts : DG K mg "nexts" (topS 21) ["rows", "number", "behind"]
  t_tables : DG K mg "tables" (topS 22) ["program"]
  t__law_deck : DG K mg "_law_deck" (topS 24) ["_law_script"]
  t__law_take : DG K mg "_law_take" (topS 25) ["_law_deck_here", "_law_many"]
  t__law_size : DG K mg "_law_size" (topS 26) ["_law_rows"]
  t__law_block : DG K mg "_law_block" (topS 27) ["_law_deck_here", "_law_room", "_law_deep"]
  t__law_back : DG K mg "_law_back" (topS 28) ["_law_rows", "_law_number", "_law_behind", "_law_found"]
  t_law : DG K mg "law" (topS 29) ["_law_script"]
  a_Program : Addr
  g_Program : mg "Program" = some (.ref a_Program)
  cl_Program : Cls K a_Program
  mk_Program : Mk K a_Program t_Program_init.a
  m_Program_definitions : Meth K a_Program "definitions" t_Program_definitions.a
  na_definitions_kept : NoAttr K a_Program "definitions_kept"
  k_LETTERS : Tok
  c_LETTERS : mg "LETTERS" = some (.str "abcdefghijklmnopqrstuvwxyz" k_LETTERS)
  k_MOST_LETTERS : Tok
  c_MOST_LETTERS : mg "MOST_LETTERS" = some (.int 8 k_MOST_LETTERS)
  k_MAIN : Tok
  c_MAIN : mg "MAIN" = some (.str "main" k_MAIN)
  kd_NAMED : KDs K mg w "NAMED" es_NAMED
  f_einit : Addr
  d_einit : FuncData
  t_einit : Fun K "__init__" "AskError.__init__" (inClass (topS 1) 0) f_einit d_einit
  b_einit : Binds K d_einit ["self", "what"] []
  i_init : PySem.W.typeIn K (.ref f_einit) = some (.type "function")
  p_einit : Pos × Pos × Pos × Pos
  sc_einit : FnScope ["self", "what"] ["self", "what"] (defScope (inClass (topS 1) 0))
  bo_einit : defBody (inClass (topS 1) 0) = [.Assign [.Attribute (.Name "self" p_einit.1) "what" p_einit.2.1] (.Name "what" p_einit.2.2.1) p_einit.2.2.2]
  E_NoProgram : Addr
  x_NoProgram : ExT K mg "NoProgram" E_NoProgram f_einit
  E_AskError : Addr
  x_AskError : ExT K mg "AskError" E_AskError f_einit
  n_abs : mg "abs" = none
  n_all : mg "all" = none
  n_enumerate : mg "enumerate" = none
  n_len : mg "len" = none
  n_list : mg "list" = none
  n_min : mg "min" = none
  n_range : mg "range" = none
  n_set : mg "set" = none
  n_sorted : mg "sorted" = none
  n_tuple : mg "tuple" = none
noncomputable def m_is_name : FM := callS 2
      (retS (andV (chainM leP leP (cV (.int 1)) (callM (on1 lenP) (aC (vV 0) aN)) (cV (.int 8))) (callM (on1 allP) (aC (compM (seqM (vV 0)) (gN 1) yesM (binM inP (vV 1) (cV (.str "abcdefghijklmnopqrstuvwxyz"))) [1]) aN))))
noncomputable def m_each_row : Nat → FM
  | 0 => fun _ _ => .bad
  | d + 1 => callS 3
      (seqS (asgS (lstM aN) (gN 1))
      (seqS (forS (seqM (vV 0)) (gN 2) (seqS (exprS (mtM "list" appendP (vV 1) (aC (vV 2) aN)))
      (ifS (blM (binM eqP (binM getP (vV 2) (cV (.int 0))) (cV (.str "if")))) (exprS (mtM "list" extendP (vV 1) (aC (binM addP (callD (m_each_row d) (aC (binM getP (vV 2) (cV (.int 2))) aN)) (callD (m_each_row d) (aC (binM getP (vV 2) (cV (.int 3))) aN))) aN))) nopS)))
      (retS (vV 1))))
noncomputable def m_numbered : FM := callS 3
      (retS (compM (enumAM (callD (m_each_row 6) (aC (vV 0) aN))) (gT 2 (gsC (gN 1) (gsC (gN 2) gsN))) yesM (tupM (aC (binM addP (vV 1) (cV (.int 1))) (aC (vV 2) aN))) [1, 2]))
noncomputable def m_size_of : FM := callS 1
      (retS (callM (on1 lenP) (aC (callD (m_each_row 6) (aC (vV 0) aN)) aN)))
noncomputable def m_names_asked : FM := callS 2
      (seqS (ifS (blM (binM neP (binM getP (vV 0) (cV (.int 0))) (cV (.str "set")))) (retS (lstM (aC (binM getP (vV 0) (cV (.int 1))) aN))) nopS)
      (seqS (asgS (binM getP (vV 0) (cV (.int 2))) (gN 1))
      (seqS (ifS (blM (binM eqP (binM getP (vV 1) (cV (.int 0))) (cV (.str "call")))) (retS (callM (on1 listP) (aC (binM getP (vV 1) (cV (.int 2))) aN))) nopS)
      (retS (ifM (blM (binM eqP (binM getP (vV 1) (cV (.int 0))) (cV (.str "num")))) (lstM aN) (callM (on1 listP) (aC (slM (vV 1) (oS (cV (.int 1))) oN) aN)))))))
noncomputable def m_call_of : FM := callS 4
      (seqS (ifS (orM (blM (binM neP (binM getP (vV 0) (cV (.int 0))) (cV (.str "set")))) (blM (binM neP (binM getP (binM getP (vV 0) (cV (.int 2))) (cV (.int 0))) (cV (.str "call"))))) (retS (cV .non)) nopS)
      (seqS (asgS (binM getP (vV 0) (cV (.int 2))) (gT 3 (gsC (gN 1) (gsC (gN 2) (gsC (gN 3) gsN)))))
      (retS (tupM (aC (vV 2) (aC (vV 3) aN))))))
noncomputable def m_names_in : FM := callS 1
      (retS (binM addP (callD m_names_asked (aC (vV 0) aN)) (lstM (aC (binM getP (vV 0) (cV (.int 1))) aN))))
noncomputable def m_is_sound : FM := callS 12
      (seqS (asgS (vV 0) (gT 3 (gsC (gN 5) (gsC (gN 6) (gsC (gN 7) gsN)))))
      (seqS (asgS (callD (m_each_row 6) (aC (vV 7) aN)) (gN 2))
      (seqS (asgS (binM addP (comp2M (seqM (vV 2)) (gN 8) yesM (seqM (callD m_names_in (aC (vV 8) aN))) (gN 9) yesM (vV 9) [8, 9] [9]) (callM (on1 listP) (aC (vV 6) aN))) (gN 3))
      (seqS (ifS (orM (notM (truM (callM (on1 allP) (aC (compM (seqM (vV 3)) (gN 9) yesM (callD m_is_name (aC (vV 9) aN)) [9]) aN)))) (blM (binM ltP (lenSetM (vV 6)) (callM (on1 lenP) (aC (vV 6) aN))))) (retS (cV (.bl false))) nopS)
      (seqS (asgS (compM (seqM (vV 2)) (gN 8) (blM (notNM (callD m_call_of (aC (vV 8) aN)))) (callD m_call_of (aC (vV 8) aN)) [8]) (gN 4))
      (retS (callM (on1 allP) (aC (compM (seqM (vV 4)) (gT 2 (gsC (gN 10) (gsC (gN 11) gsN))) yesM (andV (binM inP (vV 10) (vV 1)) (binM eqP (callM (on1 lenP) (aC (binM dgetP (vV 1) (vV 10)) aN)) (callM (on1 lenP) (aC (vV 11) aN)))) [10, 11]) aN))))))))
noncomputable def m_Program_init : FM := callS 8
      (seqS (asgS dictM (gN 2))
      (seqS (forS (seqM (vV 1)) (gT 3 (gsC (gN 5) (gsC (gN 6) (gsC (gN 7) gsN)))) (exprS (m2M setdefP (vV 2) (vV 5) (vV 6))))
      (seqS (asgS (lstM aN) (gN 3))
      (seqS (forS (seqM (vV 1)) (gN 4) (seqS (ifS (orM (notM (truM (callD m_is_name (aC (binM getP (vV 4) (cV (.int 0))) aN)))) (orM (blM (binM inP (binM getP (vV 4) (cV (.int 0))) (vV 3))) (notM (truM (callD m_is_sound (aC (vV 4) (aC (vV 2) aN))))))) (raiseS "NoProgram" (binM getP (vV 4) (cV (.int 0)))) nopS)
      (exprS (mtM "list" appendP (vV 3) (aC (binM getP (vV 4) (cV (.int 0))) aN)))))
      (seqS (ifS (blM (binM neP (m2M get2P (vV 2) (cV (.str "main")) (tupM (aC (cV (.str "main")) aN))) (tupM aN))) (raiseS "NoProgram" (cV .non)) nopS)
      (setfS "Program" "definitions_kept" (callM (on1 listP) (aC (vV 1) aN)) (vV 0)))))))
noncomputable def m_Program_definitions : FM := callS 1
      (retS (callM (on1 listP) (aC (fldM "Program" "definitions_kept" (vV 0)) aN)))
noncomputable def m_facts_of_value : FM := callS 8
      (seqS neverS
      (seqS (ifS (blM (binM eqP (vV 3) (cV (.str "call")))) (seqS (asgS (compM (enumAM (binM getP (vV 5) (cV (.int 1)))) (gT 2 (gsC (gN 7) (gsC (gN 6) gsN))) yesM (tupM (aC (cV (.str "hands")) (aC (vV 0) (aC (vV 1) (aC (vV 7) (aC (vV 6) aN)))))) [7, 6]) (gN 4))
      (retS (binM addP (lstM (aC (tupM (aC (cV (.str "calls")) (aC (vV 0) (aC (vV 1) (aC (binM getP (vV 5) (cV (.int 0))) aN))))) aN)) (vV 4)))) nopS)
      (seqS (ifS (blM (binM eqP (vV 3) (cV (.str "read")))) (retS (lstM (aC (tupM (aC (cV (.str "reads")) (aC (vV 0) (aC (vV 1) aN)))) aN))) nopS)
      (retS (compM (seqM (vV 5)) (gN 6) (blM (binM neP (vV 3) (cV (.str "num")))) (tupM (aC (kdM es_NAMED (vV 3)) (aC (vV 0) (aC (vV 1) (aC (vV 6) aN))))) [6])))))
noncomputable def m_facts_of_row : FM := callS 3
      (seqS (ifS (blM (binM eqP (binM getP (vV 2) (cV (.int 0))) (cV (.str "set")))) (retS (binM addP (lstM (aC (tupM (aC (cV (.str "sets")) (aC (vV 0) (aC (vV 1) (aC (binM getP (vV 2) (cV (.int 1))) aN))))) aN)) (callD m_facts_of_value (aC (vV 0) (aC (vV 1) (aC (binM getP (vV 2) (cV (.int 2))) aN)))))) nopS)
      (retS (lstM (aC (tupM (aC (kdM es_NAMED (binM getP (vV 2) (cV (.int 0)))) (aC (vV 0) (aC (vV 1) (aC (binM getP (vV 2) (cV (.int 1))) aN))))) aN))))
noncomputable def m_nexts : Nat → FM
  | 0 => fun _ _ => .bad
  | d + 1 => callS 9
      (seqS (asgS (lstM aN) (gN 3))
      (seqS (forS (enumAM (vV 0)) (gT 2 (gsC (gN 4) (gsC (gN 5) gsN))) (seqS (asgS (binM addP (vV 1) (callD m_size_of (aC (slM (vV 0) (oS (vV 4)) (oS (binM addP (vV 4) (cV (.int 1))))) aN))) (gN 6))
      (seqS (asgS (ifM (blM (binM ltP (binM addP (vV 4) (cV (.int 1))) (callM (on1 lenP) (aC (vV 0) aN)))) (vV 6) (vV 2)) (gN 7))
      (seqS (ifS (blM (binM eqP (binM getP (vV 5) (cV (.int 0))) (cV (.str "give")))) (exprS (mtM "list" appendP (vV 3) (aC (tupM (aC (vV 1) (aC (cV (.int 0)) aN))) aN))) (ifS (blM (binM eqP (binM getP (vV 5) (cV (.int 0))) (cV (.str "if")))) (seqS (asgS (binM addP (binM addP (vV 1) (cV (.int 1))) (callD m_size_of (aC (binM getP (vV 5) (cV (.int 2))) aN))) (gN 8))
      (seqS (exprS (mtM "list" appendP (vV 3) (aC (tupM (aC (vV 1) (aC (ifM (blM (binM gtP (callM (on1 lenP) (aC (binM getP (vV 5) (cV (.int 2))) aN)) (cV (.int 0)))) (binM addP (vV 1) (cV (.int 1))) (vV 7)) aN))) aN)))
      (seqS (exprS (mtM "list" appendP (vV 3) (aC (tupM (aC (vV 1) (aC (ifM (blM (binM gtP (callM (on1 lenP) (aC (binM getP (vV 5) (cV (.int 3))) aN)) (cV (.int 0)))) (vV 8) (vV 7)) aN))) aN)))
      (exprS (mtM "list" extendP (vV 3) (aC (binM addP (callD (m_nexts d) (aC (binM getP (vV 5) (cV (.int 2))) (aC (binM addP (vV 1) (cV (.int 1))) (aC (vV 7) aN)))) (callD (m_nexts d) (aC (binM getP (vV 5) (cV (.int 3))) (aC (vV 8) (aC (vV 7) aN))))) aN)))))) (exprS (mtM "list" appendP (vV 3) (aC (tupM (aC (vV 1) (aC (vV 7) aN))) aN)))))
      (asgS (vV 6) (gN 1))))))
      (retS (vV 3))))
noncomputable def m_tables : FM := callS 11
      (seqS (asgS (lstM aN) (gN 1))
      (seqS (forS (seqM (methM "Program" "definitions" m_Program_definitions (vV 0) aN)) (gT 3 (gsC (gN 2) (gsC (gN 3) (gsC (gN 4) gsN)))) (seqS (exprS (mtM "list" extendP (vV 1) (aC (compM (enumAM (vV 3)) (gT 2 (gsC (gN 7) (gsC (gN 8) gsN))) yesM (tupM (aC (cV (.str "takes")) (aC (vV 2) (aC (vV 7) (aC (vV 8) aN))))) [7, 8]) aN)))
      (seqS (exprS (mtM "list" appendP (vV 1) (aC (tupM (aC (cV (.str "next")) (aC (vV 2) (aC (cV (.int 0)) (aC (callM (on2 minP) (aC (cV (.int 1)) (aC (callM (on1 lenP) (aC (vV 4) aN)) aN))) aN))))) aN)))
      (seqS (exprS (mtM "list" extendP (vV 1) (aC (compM (seqM (callD (m_nexts 6) (aC (vV 4) (aC (cV (.int 1)) (aC (cV (.int 0)) aN))))) (gT 2 (gsC (gN 9) (gsC (gN 10) gsN))) yesM (tupM (aC (cV (.str "next")) (aC (vV 2) (aC (vV 9) (aC (vV 10) aN))))) [9, 10]) aN)))
      (forS (seqM (callD m_numbered (aC (vV 4) aN))) (gT 2 (gsC (gN 5) (gsC (gN 6) gsN))) (exprS (mtM "list" extendP (vV 1) (aC (callD m_facts_of_row (aC (vV 2) (aC (vV 5) (aC (vV 6) aN)))) aN))))))))
      (retS (sortSetM (vV 1)))))
noncomputable def m__law_deck : FM := callS 4
      (seqS (asgS (lstM aN) (gN 1))
      (seqS (asgS (cV (.int 11)) (gN 2))
      (seqS (forS (seqM (vV 0)) (gN 3) (seqS (asgS (binM modP (binM addP (binM mulP (vV 2) (cV (.int 1000003))) (vV 3)) (cV (.int 2305843009213693951))) (gN 2))
      (ifS (blM (binM geP (callM (on1 absP) (aC (vV 3) aN)) (binM powP (cV (.int 10)) (cV (.int 18))))) (exprS (mtM "list" insertP (vV 1) (aC (cV (.int 0)) (aC (binM subP (callM (on1 absP) (aC (vV 3) aN)) (binM powP (cV (.int 10)) (cV (.int 18)))) aN)))) nopS)))
      (retS (lstM (aC (vV 1) (aC (vV 2) (aC (cV (.int 0)) aN))))))))
noncomputable def m__law_take : FM := callS 5
      (seqS (whileS (andM (blM (binM neP (binM getP (vV 0) (cV (.int 0))) (lstM aN))) (blM (binM ltP (binM getP (binM getP (vV 0) (cV (.int 0))) (unM negP (cV (.int 1)))) (cV (.int 2))))) (exprS (mtM "list" popP (binM getP (vV 0) (cV (.int 0))) aN)))
      (seqS (ifS (blM (binM neP (binM getP (vV 0) (cV (.int 0))) (lstM aN))) (seqS (asgS (binM modP (binM getP (binM getP (vV 0) (cV (.int 0))) (unM negP (cV (.int 1)))) (vV 1)) (gN 4))
      (seqS (setS (binM fdivP (binM getP (binM getP (vV 0) (cV (.int 0))) (unM negP (cV (.int 1)))) (vV 1)) (binM getP (vV 0) (cV (.int 0))) (unM negP (cV (.int 1))))
      (retS (vV 4)))) nopS)
      (seqS (setS (binM addP (binM getP (vV 0) (cV (.int 2))) (cV (.int 1))) (vV 0) (cV (.int 2)))
      (seqS (asgS (binM getP (vV 0) (cV (.int 2))) (gN 2))
      (seqS (asgS (binM addP (binM mulP (binM addP (binM getP (vV 0) (cV (.int 1))) (cV (.int 40503))) (binM powP (binM addP (vV 2) (cV (.int 5))) (cV (.int 3)))) (binM mulP (cV (.int 69621)) (vV 2))) (gN 3))
      (retS (binM modP (binM fdivP (binM modP (binM powP (binM modP (vV 3) (cV (.int 2305843009213693951))) (cV (.int 3))) (cV (.int 1000000007))) (cV (.int 64))) (vV 1))))))))
noncomputable def m__law_size : Nat → FM
  | 0 => fun _ _ => .bad
  | d + 1 => callS 3
      (seqS (asgS (cV (.int 0)) (gN 1))
      (seqS (forS (seqM (vV 0)) (gN 2) (seqS (asgS (binM addP (vV 1) (cV (.int 1))) (gN 1))
      (ifS (blM (binM eqP (binM getP (vV 2) (cV (.int 0))) (cV (.str "if")))) (asgS (binM addP (binM addP (vV 1) (callD (m__law_size d) (aC (binM getP (vV 2) (cV (.int 2))) aN))) (callD (m__law_size d) (aC (binM getP (vV 2) (cV (.int 3))) aN))) (gN 1)) nopS)))
      (retS (vV 1))))
noncomputable def m__law_block : Nat → FM
  | 0 => fun _ _ => .bad
  | d + 1 => callS 6
      (seqS (asgS (lstM aN) (gN 3))
      (seqS (forS (rng1M (callD m__law_take (aC (vV 0) (aC (binM getP (lstM (aC (cV (.int 6)) (aC (cV (.int 3)) (aC (cV (.int 3)) (aC (cV (.int 3)) aN))))) (binM subP (vV 2) (cV (.int 1)))) aN)))) (gN 4) (ifS (blM (binM gtP (binM getP (vV 1) (cV (.int 0))) (cV (.int 0)))) (seqS (setS (binM subP (binM getP (vV 1) (cV (.int 0))) (cV (.int 1))) (vV 1) (cV (.int 0)))
      (seqS (asgS (callD m__law_take (aC (vV 0) (aC (cV (.int 7)) aN))) (gN 5))
      (ifS (andM (blM (binM ltP (vV 5) (cV (.int 3)))) (blM (binM ltP (vV 2) (cV (.int 4))))) (exprS (mtM "list" appendP (vV 3) (aC (tupM (aC (cV (.str "if")) (aC (cV (.str "a")) (aC (callD (m__law_block d) (aC (vV 0) (aC (vV 1) (aC (binM addP (vV 2) (cV (.int 1))) aN)))) (aC (callD (m__law_block d) (aC (vV 0) (aC (vV 1) (aC (binM addP (vV 2) (cV (.int 1))) aN)))) aN))))) aN))) (exprS (mtM "list" appendP (vV 3) (aC (tupM (aC (binM getP (lstM (aC (cV (.str "give")) (aC (cV (.str "send")) (aC (cV (.str "send")) aN)))) (callD m__law_take (aC (vV 0) (aC (cV (.int 3)) aN)))) (aC (cV (.str "a")) aN))) aN)))))) nopS))
      (retS (callM (on1 tupleP) (aC (vV 3) aN)))))
noncomputable def m__law_back : Nat → FM
  | 0 => fun _ _ => .bad
  | d + 1 => callS 7
      (seqS (asgS (binM addP (vV 1) (callD (m__law_size 6) (aC (vV 0) aN))) (gN 4))
      (seqS (forS (seqM (unM revAP (vV 0))) (gN 5) (seqS (asgS (binM subP (vV 4) (callD (m__law_size 6) (aC (tupM (aC (vV 5) aN)) aN))) (gN 4))
      (seqS (ifS (blM (binM eqP (binM getP (vV 5) (cV (.int 0))) (cV (.str "give")))) (exprS (mtM "list" appendP (vV 3) (aC (tupM (aC (vV 4) (aC (cV (.int 0)) aN))) aN))) nopS)
      (seqS (ifS (blM (binM eqP (binM getP (vV 5) (cV (.int 0))) (cV (.str "send")))) (exprS (mtM "list" appendP (vV 3) (aC (tupM (aC (vV 4) (aC (vV 2) aN))) aN))) nopS)
      (seqS (ifS (blM (binM eqP (binM getP (vV 5) (cV (.int 0))) (cV (.str "if")))) (seqS (asgS (binM addP (binM addP (vV 4) (cV (.int 1))) (callD (m__law_size 6) (aC (binM getP (vV 5) (cV (.int 2))) aN))) (gN 6))
      (seqS (exprS (mtM "list" appendP (vV 3) (aC (tupM (aC (vV 4) (aC (callD (m__law_back d) (aC (binM getP (vV 5) (cV (.int 2))) (aC (binM addP (vV 4) (cV (.int 1))) (aC (vV 2) (aC (vV 3) aN))))) aN))) aN)))
      (exprS (mtM "list" appendP (vV 3) (aC (tupM (aC (vV 4) (aC (callD (m__law_back d) (aC (binM getP (vV 5) (cV (.int 3))) (aC (vV 6) (aC (vV 2) (aC (vV 3) aN))))) aN))) aN))))) nopS)
      (asgS (vV 4) (gN 2)))))))
      (retS (vV 2))))
noncomputable def m_law : FM := callS 13
      (seqS (asgS (callD m__law_deck (aC (vV 0) aN)) (gN 1))
      (seqS (forS (rng1M (binM addP (cV (.int 4)) (callM (on2 minP) (aC (cV (.int 12)) (aC (callM (on1 lenP) (aC (vV 0) aN)) aN))))) (gN 2) (seqS (asgS (lstM (aC (tupM (aC (cV (.str "main")) (aC (tupM aN) (aC (callD (m__law_block 5) (aC (vV 1) (aC (lstM (aC (cV (.int 30)) aN)) (aC (cV (.int 1)) aN)))) aN)))) (aC (tupM (aC (cV (.str "b")) (aC (tupM (aC (cV (.str "a")) aN)) (aC (callD (m__law_block 5) (aC (vV 1) (aC (lstM (aC (cV (.int 30)) aN)) (aC (cV (.int 1)) aN)))) aN)))) aN))) (gN 3))
      (seqS (asgS (stepM (vV 3) (binM getP (lstM (aC (cV (.int 1)) (aC (unM negP (cV (.int 1))) aN))) (callD m__law_take (aC (vV 1) (aC (cV (.int 2)) aN))))) (gN 3))
      (seqS (asgS (lstM aN) (gN 4))
      (seqS (forS (seqM (vV 3)) (gT 3 (gsC (gN 6) (gsC (gN 7) (gsC (gN 8) gsN)))) (seqS (asgS (lstM aN) (gN 9))
      (seqS (exprS (mtM "list" appendP (vV 9) (aC (tupM (aC (cV (.int 0)) (aC (callD (m__law_back 6) (aC (vV 8) (aC (cV (.int 1)) (aC (cV (.int 0)) (aC (vV 9) aN))))) aN))) aN)))
      (asgS (binM addP (vV 4) (compM (seqM (vV 9)) (gT 2 (gsC (gN 11) (gsC (gN 12) gsN))) yesM (tupM (aC (cV (.str "next")) (aC (vV 6) (aC (vV 11) (aC (vV 12) aN))))) [11, 12])) (gN 4)))))
      (seqS (asgS (compM (seqM (callD m_tables (aC (makeM "Program" m_Program_init id (aC (callM (on1 listP) (aC (vV 3) aN)) aN)) aN))) (gN 10) (blM (binM eqP (binM getP (vV 10) (cV (.int 0))) (cV (.str "next")))) (vV 10) [10]) (gN 5))
      (ifS (blM (binM neP (vV 5) (sortSetM (vV 4)))) (retS (cV (.bl false))) nopS)))))))
      (retS (cV (.bl true)))))
section
variable {P : Program} {w : World} {K : PySem.W.Frag} {mg : Str → Option Value} {base : Heap}
theorem ok_is_name (T : Tx K mg w) : FnOk P w K mg base (L2.CX P w) 1 T.t_is_name.a T.t_is_name.d ["text"] (spD K mg 1 m_is_name) := fn_body (k := 0) T.t_is_name.F sc_is_name rfl fun cdv A outer s H Q E hr => by
    have nd := sc_is_name.nd
    have hu1 := hu_of hr
    have hu64 := hr.units
    have hu65 := hu65_of hr
    have tk := takes_of (X := cxOf (L2.CX P w) P w K mg base ["text", "letter"] "is_name" (defScope (topS 8)) T.t_is_name.a cdv A outer s H E) (E := E) rfl rfl rfl rfl
    exact (rss_one (rs_ret (re_and (re_chain og_le og_le re_int (re_callB cr_len (by rfl) T.n_len (by decide +kernel) (ra_cons (re_var 0) ra_nil)) (re_globI (by rfl) T.c_MOST_LETTERS)) (re_one (re_callB (cr_allP rfl) (by rfl) T.n_all (by decide +kernel) (ra_cons (re_lc (own := [("letter", 1)]) rfl nd (ri_seq (re_var 0)) (blkOk_by (own := [("letter", 1)]) (N := ["text", "letter"]) (sc := defScope (topS 8)) (by decide +kernel)) (fun _ _ _ _ _ => (rg_name 1 nd rfl (by first | exact .inl rfl | exact .inr rfl))) (fun _ _ _ _ _ => rts_nil) (fun _ _ _ _ _ => (re_cmp (og_in hu65) (re_var 1) (re_globS (by rfl) T.c_LETTERS))) (by decide)) ra_nil))))))
theorem ok_each_row (T : Tx K mg w) : ∀ d : Nat, FnOk P w K mg base (L2.CX P w) (1 + d) T.t_each_row.a T.t_each_row.d ["rows"] (spD K mg 1 (m_each_row d))
  | 0 => fn_bad
  | d + 1 => by
   have ih_each_row := ok_each_row T d
   exact fn_body (k := 1 + d) T.t_each_row.F sc_each_row rfl fun cdv A outer s H Q E hr => by
       have nd := sc_each_row.nd
       have hu1 := hu_of hr
       have hu64 := hr.units
       have hu65 := hu65_of hr
       have tk := takes_of (X := cxOf (L2.CX P w) P w K mg base ["rows", "found", "row"] "each_row" (defScope (topS 9)) T.t_each_row.a cdv A outer s H E) (E := E) rfl rfl rfl rfl
       exact (rss_cons (rs_set 1 nd rfl (by first | exact .inl rfl | exact .inr rfl) (re_lst ra_nil))
         (rss_cons (rs_for (passes_of rfl) rfl (ri_seq (re_var 0)) (rg_name 2 nd rfl (by first | exact .inl rfl | exact .inr rfl)) (rss_cons (rs_expr (re_bm PySem.F.plainAttrs_list PySem.F.slot_list_append PySem.F.type_list_append om_append (re_var 1) (ra_cons (re_var 2) ra_nil)))
         (rss_one (rs_if (rt_cmp (og_eq hu64) (re_ix (re_var 2) re_int) re_str) (rss_one (rs_expr (re_bm PySem.F.plainAttrs_list PySem.F.slot_list_extend PySem.F.type_list_extend om_extend (re_var 1) (ra_cons (re_bin og_add (re_call ih_each_row (hr.mono (by omega)) (by rfl) T.t_each_row.g T.t_each_row.F.kp T.t_each_row.b tk (ra_cons (re_ix (re_var 2) re_int) ra_nil) (aC_len aN_len)) (re_call ih_each_row (hr.mono (by omega)) (by rfl) T.t_each_row.g T.t_each_row.F.kp T.t_each_row.b tk (ra_cons (re_ix (re_var 2) re_int) ra_nil) (aC_len aN_len))) ra_nil)))) rss_nil))))
         (rss_one (rs_ret (re_var 1)))))
theorem ok_numbered (T : Tx K mg w) : FnOk P w K mg base (L2.CX P w) 8 T.t_numbered.a T.t_numbered.d ["rows"] (spD K mg 1 m_numbered) := fn_body (k := 7) T.t_numbered.F sc_numbered rfl fun cdv A outer s H Q E hr => by
    have nd := sc_numbered.nd
    have hu1 := hu_of hr
    have hu64 := hr.units
    have hu65 := hu65_of hr
    have tk := takes_of (X := cxOf (L2.CX P w) P w K mg base ["rows", "at", "row"] "numbered" (defScope (topS 10)) T.t_numbered.a cdv A outer s H E) (E := E) rfl rfl rfl rfl
    exact (rss_one (rs_ret (re_lc (own := [("at", 1), ("row", 2)]) rfl nd (ri_enumA (by rfl) T.n_enumerate (re_call (ok_each_row T 6) (hr.mono (by omega)) (by rfl) T.t_each_row.g T.t_each_row.F.kp T.t_each_row.b tk (ra_cons (re_var 0) ra_nil) (aC_len aN_len))) (blkOk_by (own := [("at", 1), ("row", 2)]) (N := ["rows", "at", "row"]) (sc := defScope (topS 10)) (by decide +kernel)) (fun _ _ _ _ _ => (rg_tup rfl (rgs_cons (rg_name 1 nd rfl (by first | exact .inl rfl | exact .inr rfl)) (rgs_cons (rg_name 2 nd rfl (by first | exact .inl rfl | exact .inr rfl)) rgs_nil)))) (fun _ _ _ _ _ => rts_nil) (fun _ _ _ _ _ => (re_tup (ra_cons (re_bin og_add (re_var 1) re_int) (ra_cons (re_var 2) ra_nil)))) (by decide))))
theorem ok_size_of (T : Tx K mg w) : FnOk P w K mg base (L2.CX P w) 8 T.t_size_of.a T.t_size_of.d ["rows"] (spD K mg 1 m_size_of) := fn_body (k := 7) T.t_size_of.F sc_size_of rfl fun cdv A outer s H Q E hr => by
    have nd := sc_size_of.nd
    have hu1 := hu_of hr
    have hu64 := hr.units
    have hu65 := hu65_of hr
    have tk := takes_of (X := cxOf (L2.CX P w) P w K mg base ["rows"] "size_of" (defScope (topS 11)) T.t_size_of.a cdv A outer s H E) (E := E) rfl rfl rfl rfl
    exact (rss_one (rs_ret (re_callB cr_len (by rfl) T.n_len (by decide +kernel) (ra_cons (re_call (ok_each_row T 6) (hr.mono (by omega)) (by rfl) T.t_each_row.g T.t_each_row.F.kp T.t_each_row.b tk (ra_cons (re_var 0) ra_nil) (aC_len aN_len)) ra_nil))))
theorem ok_names_asked (T : Tx K mg w) : FnOk P w K mg base (L2.CX P w) 1 T.t_names_asked.a T.t_names_asked.d ["row"] (spD K mg 1 m_names_asked) := fn_body (k := 0) T.t_names_asked.F sc_names_asked rfl fun cdv A outer s H Q E hr => by
    have nd := sc_names_asked.nd
    have hu1 := hu_of hr
    have hu64 := hr.units
    have hu65 := hu65_of hr
    have tk := takes_of (X := cxOf (L2.CX P w) P w K mg base ["row", "value"] "names_asked" (defScope (topS 12)) T.t_names_asked.a cdv A outer s H E) (E := E) rfl rfl rfl rfl
    exact (rss_cons (rs_if (rt_cmp (og_ne hu64) (re_ix (re_var 0) re_int) re_str) (rss_one (rs_ret (re_lst (ra_cons (re_ix (re_var 0) re_int) ra_nil)))) rss_nil)
      (rss_cons (rs_set 1 nd rfl (by first | exact .inl rfl | exact .inr rfl) (re_ix (re_var 0) re_int))
      (rss_cons (rs_if (rt_cmp (og_eq hu64) (re_ix (re_var 1) re_int) re_str) (rss_one (rs_ret (re_callTy cr_list (by rfl) T.n_list (by decide +kernel) (ra_cons (re_ix (re_var 1) re_int) ra_nil)))) rss_nil)
      (rss_one (rs_ret (re_if (rt_cmp (og_eq hu64) (re_ix (re_var 1) re_int) re_str) (re_lst ra_nil) (re_callTy cr_list (by rfl) T.n_list (by decide +kernel) (ra_cons (re_slice (re_var 1) (ro_some re_int) ro_none) ra_nil))))))))
theorem ok_call_of (T : Tx K mg w) : FnOk P w K mg base (L2.CX P w) 1 T.t_call_of.a T.t_call_of.d ["row"] (spD K mg 1 m_call_of) := fn_body (k := 0) T.t_call_of.F sc_call_of rfl fun cdv A outer s H Q E hr => by
    have nd := sc_call_of.nd
    have hu1 := hu_of hr
    have hu64 := hr.units
    have hu65 := hu65_of hr
    have tk := takes_of (X := cxOf (L2.CX P w) P w K mg base ["row", "word", "definition", "names"] "call_of" (defScope (topS 13)) T.t_call_of.a cdv A outer s H E) (E := E) rfl rfl rfl rfl
    exact (rss_cons (rs_if (rt_of (rw_or (rt_cmp (og_ne hu64) (re_ix (re_var 0) re_int) re_str) (rw_or1 (rt_cmp (og_ne hu64) (re_ix (re_ix (re_var 0) re_int) re_int) re_str)))) (rss_one (rs_ret re_non)) rss_nil)
      (rss_cons (rs_asg (re_ix (re_var 0) re_int) (rg_tup rfl (rgs_cons (rg_name 1 nd rfl (by first | exact .inl rfl | exact .inr rfl)) (rgs_cons (rg_name 2 nd rfl (by first | exact .inl rfl | exact .inr rfl)) (rgs_cons (rg_name 3 nd rfl (by first | exact .inl rfl | exact .inr rfl)) rgs_nil)))))
      (rss_one (rs_ret (re_tup (ra_cons (re_var 2) (ra_cons (re_var 3) ra_nil)))))))
theorem ok_names_in (T : Tx K mg w) : FnOk P w K mg base (L2.CX P w) 2 T.t_names_in.a T.t_names_in.d ["row"] (spD K mg 1 m_names_in) := fn_body (k := 1) T.t_names_in.F sc_names_in rfl fun cdv A outer s H Q E hr => by
    have nd := sc_names_in.nd
    have hu1 := hu_of hr
    have hu64 := hr.units
    have hu65 := hu65_of hr
    have tk := takes_of (X := cxOf (L2.CX P w) P w K mg base ["row"] "names_in" (defScope (topS 14)) T.t_names_in.a cdv A outer s H E) (E := E) rfl rfl rfl rfl
    exact (rss_one (rs_ret (re_bin og_add (re_call (ok_names_asked T) (hr.mono (by omega)) (by rfl) T.t_names_asked.g T.t_names_asked.F.kp T.t_names_asked.b tk (ra_cons (re_var 0) ra_nil) (aC_len aN_len)) (re_lst (ra_cons (re_ix (re_var 0) re_int) ra_nil)))))
theorem ok_is_sound (T : Tx K mg w) : FnOk P w K mg base (L2.CX P w) 8 T.t_is_sound.a T.t_is_sound.d ["definition", "others"] (spD K mg 2 m_is_sound) := fn_body (k := 7) T.t_is_sound.F sc_is_sound rfl fun cdv A outer s H Q E hr => by
    have nd := sc_is_sound.nd
    have hu1 := hu_of hr
    have hu64 := hr.units
    have hu65 := hu65_of hr
    have tk := takes_of (X := cxOf (L2.CX P w) P w K mg base ["definition", "others", "every", "names", "calls", "name", "parameters", "rows", "row", "one", "called", "given"] "is_sound" (defScope (topS 15)) T.t_is_sound.a cdv A outer s H E) (E := E) rfl rfl rfl rfl
    exact (rss_cons (rs_asg (re_var 0) (rg_tup rfl (rgs_cons (rg_name 5 nd rfl (by first | exact .inl rfl | exact .inr rfl)) (rgs_cons (rg_name 6 nd rfl (by first | exact .inl rfl | exact .inr rfl)) (rgs_cons (rg_name 7 nd rfl (by first | exact .inl rfl | exact .inr rfl)) rgs_nil)))))
      (rss_cons (rs_set 2 nd rfl (by first | exact .inl rfl | exact .inr rfl) (re_call (ok_each_row T 6) (hr.mono (by omega)) (by rfl) T.t_each_row.g T.t_each_row.F.kp T.t_each_row.b tk (ra_cons (re_var 7) ra_nil) (aC_len aN_len)))
      (rss_cons (rs_set 3 nd rfl (by first | exact .inl rfl | exact .inr rfl) (re_bin og_add (re_lc2 (own := [("row", 8), ("one", 9)]) rfl nd (ri_seq (re_var 2)) (blkOk_by (own := [("row", 8), ("one", 9)]) (N := ["definition", "others", "every", "names", "calls", "name", "parameters", "rows", "row", "one", "called", "given"]) (sc := defScope (topS 15)) (by decide +kernel)) (vs1 := [9]) (by decide) (fun _ _ _ _ _ => (rg_name 8 nd rfl (by first | exact .inl rfl | exact .inr rfl))) (fun _ _ _ _ _ => rts_nil) (fun _ _ _ _ _ => (ri_seq (re_call (ok_names_in T) (hr.mono (by omega)) (by rfl) T.t_names_in.g T.t_names_in.F.kp T.t_names_in.b takes0 (ra_cons (re_var 8) ra_nil) (aC_len aN_len)))) (fun _ _ _ _ _ => (rg_name 9 nd rfl (by first | exact .inl rfl | exact .inr rfl))) (fun _ _ _ _ _ => rts_nil) (fun _ _ _ _ _ => (re_var 9)) (by decide) (by decide)) (re_callTy cr_list (by rfl) T.n_list (by decide +kernel) (ra_cons (re_var 6) ra_nil))))
      (rss_cons (rs_if (rt_of (rw_or (rt_not (rt_tru (re_callB (cr_allP rfl) (by rfl) T.n_all (by decide +kernel) (ra_cons (re_lc (own := [("one", 9)]) rfl nd (ri_seq (re_var 3)) (blkOk_by (own := [("one", 9)]) (N := ["definition", "others", "every", "names", "calls", "name", "parameters", "rows", "row", "one", "called", "given"]) (sc := defScope (topS 15)) (by decide +kernel)) (fun _ _ _ _ _ => (rg_name 9 nd rfl (by first | exact .inl rfl | exact .inr rfl))) (fun _ _ _ _ _ => rts_nil) (fun _ _ _ _ _ => (re_call (ok_is_name T) (hr.mono (by omega)) (by rfl) T.t_is_name.g T.t_is_name.F.kp T.t_is_name.b takes0 (ra_cons (re_var 9) ra_nil) (aC_len aN_len))) (by decide)) ra_nil)))) (rw_or1 (rt_cmp og_lt (re_lenSet rfl (by rfl) T.n_len (by rfl) T.n_set (re_var 6)) (re_callB cr_len (by rfl) T.n_len (by decide +kernel) (ra_cons (re_var 6) ra_nil)))))) (rss_one (rs_ret re_bl)) rss_nil)
      (rss_cons (rs_setLc 4 (own := [("row", 8)]) rfl nd rfl rfl (sw_true rfl rfl rfl (by decide +kernel)) (ri_seq (re_var 2)) (blkOk_by (own := [("row", 8)]) (N := ["definition", "others", "every", "names", "calls", "name", "parameters", "rows", "row", "one", "called", "given"]) (sc := defScope (topS 15)) (by decide +kernel)) (fun _ _ _ _ _ => (rg_name 8 nd rfl (by first | exact .inl rfl | exact .inr rfl))) (fun _ _ _ _ _ => (rts_one (rt_notN (re_call (ok_call_of T) (hr.mono (by omega)) (by rfl) T.t_call_of.g T.t_call_of.F.kp T.t_call_of.b takes0 (ra_cons (re_var 8) ra_nil) (aC_len aN_len))))) (fun _ _ _ _ _ => (re_call (ok_call_of T) (hr.mono (by omega)) (by rfl) T.t_call_of.g T.t_call_of.F.kp T.t_call_of.b takes0 (ra_cons (re_var 8) ra_nil) (aC_len aN_len))) (by decide))
      (rss_one (rs_ret (re_callB (cr_allP rfl) (by rfl) T.n_all (by decide +kernel) (ra_cons (re_lc (own := [("called", 10), ("given", 11)]) rfl nd (ri_seq (re_var 4)) (blkOk_by (own := [("called", 10), ("given", 11)]) (N := ["definition", "others", "every", "names", "calls", "name", "parameters", "rows", "row", "one", "called", "given"]) (sc := defScope (topS 15)) (by decide +kernel)) (fun _ _ _ _ _ => (rg_tup rfl (rgs_cons (rg_name 10 nd rfl (by first | exact .inl rfl | exact .inr rfl)) (rgs_cons (rg_name 11 nd rfl (by first | exact .inl rfl | exact .inr rfl)) rgs_nil)))) (fun _ _ _ _ _ => rts_nil) (fun _ _ _ _ _ => (re_and (re_cmp (og_in hu65) (re_var 10) (re_var 1)) (re_one (re_cmp (og_eq hu64) (re_callB cr_len (by rfl) T.n_len (by decide +kernel) (ra_cons (re_dget hu1 (re_var 1) (re_var 10)) ra_nil)) (re_callB cr_len (by rfl) T.n_len (by decide +kernel) (ra_cons (re_var 11) ra_nil)))))) (by decide)) ra_nil)))))))))
theorem ok_Program_init (T : Tx K mg w) : FnOk P w K mg base (L2.CX P w) 11 T.t_Program_init.a T.t_Program_init.d ["self", "definitions"] (spD K mg 2 m_Program_init) := fn_body (k := 10) T.t_Program_init.F sc_Program_init rfl fun cdv A outer s H Q E hr => by
    have nd := sc_Program_init.nd
    have hu1 := hu_of hr
    have hu64 := hr.units
    have hu65 := hu65_of hr
    have tk := takes_of (X := cxOf (L2.CX P w) P w K mg base ["self", "definitions", "others", "met", "definition", "name", "parameters", "rows"] "Program.__init__" (defScope (inClass (topS 16) 0)) T.t_Program_init.a cdv A outer s H E) (E := E) rfl rfl rfl rfl
    exact (rss_cons (rs_set 2 nd rfl (by first | exact .inl rfl | exact .inr rfl) re_dict0)
      (rss_cons (rs_for (passes_of rfl) rfl (ri_seq (re_var 1)) (rg_tup rfl (rgs_cons (rg_name 5 nd rfl (by first | exact .inl rfl | exact .inr rfl)) (rgs_cons (rg_name 6 nd rfl (by first | exact .inl rfl | exact .inr rfl)) (rgs_cons (rg_name 7 nd rfl (by first | exact .inl rfl | exact .inr rfl)) rgs_nil)))) (rss_one (rs_expr (re_setdef (re_var 2) (re_var 5) (re_var 6) ⟨rfl, rfl, rfl, rfl⟩))))
      (rss_cons (rs_set 3 nd rfl (by first | exact .inl rfl | exact .inr rfl) (re_lst ra_nil))
      (rss_cons (rs_for (passes_of rfl) rfl (ri_seq (re_var 1)) (rg_name 4 nd rfl (by first | exact .inl rfl | exact .inr rfl)) (rss_cons (rs_if (rt_of (rw_or (rt_not (rt_tru (re_call (ok_is_name T) (hr.mono (by omega)) (by rfl) T.t_is_name.g T.t_is_name.F.kp T.t_is_name.b tk (ra_cons (re_ix (re_var 4) re_int) ra_nil) (aC_len aN_len)))) (rw_or (rt_cmp (og_in hu65) (re_ix (re_var 4) re_int) (re_var 3)) (rw_or1 (rt_not (rt_tru (re_call (ok_is_sound T) (hr.mono (by omega)) (by rfl) T.t_is_sound.g T.t_is_sound.F.kp T.t_is_sound.b tk (ra_cons (re_var 4) (ra_cons (re_var 2) ra_nil)) (aC_len (aC_len aN_len))))))))) (rss_one (rs_raise T.x_NoProgram T.i_init (fn_init T.t_einit T.sc_einit T.bo_einit (k := 0)) (hr.mono (by omega)) T.b_einit (by rfl) rfl tk (re_ix (re_var 4) re_int))) rss_nil)
      (rss_one (rs_expr (re_bm PySem.F.plainAttrs_list PySem.F.slot_list_append PySem.F.type_list_append om_append (re_var 3) (ra_cons (re_ix (re_var 4) re_int) ra_nil))))))
      (rss_cons (rs_if (rt_cmp (og_ne hu64) (re_get2 hu1 (re_var 2) (re_globS (by rfl) T.c_MAIN) (re_tup (ra_cons (re_globS (by rfl) T.c_MAIN) ra_nil)) ⟨rfl, rfl, rfl, rfl⟩) (re_tup ra_nil)) (rss_one (rs_raise T.x_NoProgram T.i_init (fn_init T.t_einit T.sc_einit T.bo_einit (k := 0)) (hr.mono (by omega)) T.b_einit (by rfl) rfl tk re_non)) rss_nil)
      (rss_one (rs_fld T.g_Program T.cl_Program T.na_definitions_kept (re_var 0) (re_callTy cr_list (by rfl) T.n_list (by decide +kernel) (ra_cons (re_var 1) ra_nil)))))))))
theorem ok_Program_definitions (T : Tx K mg w) : FnOk P w K mg base (L2.CX P w) 1 T.t_Program_definitions.a T.t_Program_definitions.d ["self"] (spD K mg 1 m_Program_definitions) := fn_body (k := 0) T.t_Program_definitions.F sc_Program_definitions rfl fun cdv A outer s H Q E hr => by
    have nd := sc_Program_definitions.nd
    have hu1 := hu_of hr
    have hu64 := hr.units
    have hu65 := hu65_of hr
    have tk := takes_of (X := cxOf (L2.CX P w) P w K mg base ["self"] "Program.definitions" (defScope (inClass (topS 16) 1)) T.t_Program_definitions.a cdv A outer s H E) (E := E) rfl rfl rfl rfl
    exact (rss_one (rs_ret (re_callTy cr_list (by rfl) T.n_list (by decide +kernel) (ra_cons (re_fld T.g_Program T.cl_Program T.na_definitions_kept (re_var 0)) ra_nil))))
theorem ok_facts_of_value (T : Tx K mg w) : FnOk P w K mg base (L2.CX P w) 1 T.t_facts_of_value.a T.t_facts_of_value.d ["title", "number", "value"] (spD K mg 3 m_facts_of_value) := fn_body (k := 0) T.t_facts_of_value.F sc_facts_of_value rfl fun cdv A outer s H Q E hr => by
    have nd := sc_facts_of_value.nd
    have hu1 := hu_of hr
    have hu64 := hr.units
    have hu65 := hu65_of hr
    have tk := takes_of (X := cxOf (L2.CX P w) P w K mg base ["title", "number", "value", "word", "handed", "rest", "name", "at"] "facts_of_value" (defScope (topS 19)) T.t_facts_of_value.a cdv A outer s H E) (E := E) rfl rfl rfl rfl
    exact (rss_cons rs_never
      (rss_cons (rs_if (rt_cmp (og_eq hu64) (re_var 3) re_str) (rss_cons (rs_setLc 4 (own := [("at", 7), ("name", 6)]) rfl nd rfl rfl (sw_true rfl rfl rfl (by decide +kernel)) (ri_enumA (by rfl) T.n_enumerate (re_ix (re_var 5) re_int)) (blkOk_by (own := [("at", 7), ("name", 6)]) (N := ["title", "number", "value", "word", "handed", "rest", "name", "at"]) (sc := defScope (topS 19)) (by decide +kernel)) (fun _ _ _ _ _ => (rg_tup rfl (rgs_cons (rg_name 7 nd rfl (by first | exact .inl rfl | exact .inr rfl)) (rgs_cons (rg_name 6 nd rfl (by first | exact .inl rfl | exact .inr rfl)) rgs_nil)))) (fun _ _ _ _ _ => rts_nil) (fun _ _ _ _ _ => (re_tup (ra_cons re_str (ra_cons (re_var 0) (ra_cons (re_var 1) (ra_cons (re_var 7) (ra_cons (re_var 6) ra_nil))))))) (by decide))
      (rss_one (rs_ret (re_bin og_add (re_lst (ra_cons (re_tup (ra_cons re_str (ra_cons (re_var 0) (ra_cons (re_var 1) (ra_cons (re_ix (re_var 5) re_int) ra_nil))))) ra_nil)) (re_var 4))))) rss_nil)
      (rss_cons (rs_if (rt_cmp (og_eq hu64) (re_var 3) re_str) (rss_one (rs_ret (re_lst (ra_cons (re_tup (ra_cons re_str (ra_cons (re_var 0) (ra_cons (re_var 1) ra_nil)))) ra_nil)))) rss_nil)
      (rss_one (rs_ret (re_lc (own := [("name", 6)]) rfl nd (ri_seq (re_var 5)) (blkOk_by (own := [("name", 6)]) (N := ["title", "number", "value", "word", "handed", "rest", "name", "at"]) (sc := defScope (topS 19)) (by decide +kernel)) (fun _ _ _ _ _ => (rg_name 6 nd rfl (by first | exact .inl rfl | exact .inr rfl))) (fun _ _ _ _ _ => (rts_one (rt_cmp (og_ne hu64) (re_var 3) re_str))) (fun _ _ _ _ _ => (re_tup (ra_cons (re_kd T.kd_NAMED (by rfl) (re_var 3)) (ra_cons (re_var 0) (ra_cons (re_var 1) (ra_cons (re_var 6) ra_nil)))))) (by decide)))))))
theorem ok_facts_of_row (T : Tx K mg w) : FnOk P w K mg base (L2.CX P w) 2 T.t_facts_of_row.a T.t_facts_of_row.d ["title", "number", "row"] (spD K mg 3 m_facts_of_row) := fn_body (k := 1) T.t_facts_of_row.F sc_facts_of_row rfl fun cdv A outer s H Q E hr => by
    have nd := sc_facts_of_row.nd
    have hu1 := hu_of hr
    have hu64 := hr.units
    have hu65 := hu65_of hr
    have tk := takes_of (X := cxOf (L2.CX P w) P w K mg base ["title", "number", "row"] "facts_of_row" (defScope (topS 20)) T.t_facts_of_row.a cdv A outer s H E) (E := E) rfl rfl rfl rfl
    exact (rss_cons (rs_if (rt_cmp (og_eq hu64) (re_ix (re_var 2) re_int) re_str) (rss_one (rs_ret (re_bin og_add (re_lst (ra_cons (re_tup (ra_cons re_str (ra_cons (re_var 0) (ra_cons (re_var 1) (ra_cons (re_ix (re_var 2) re_int) ra_nil))))) ra_nil)) (re_call (ok_facts_of_value T) (hr.mono (by omega)) (by rfl) T.t_facts_of_value.g T.t_facts_of_value.F.kp T.t_facts_of_value.b tk (ra_cons (re_var 0) (ra_cons (re_var 1) (ra_cons (re_ix (re_var 2) re_int) ra_nil))) (aC_len (aC_len (aC_len aN_len))))))) rss_nil)
      (rss_one (rs_ret (re_lst (ra_cons (re_tup (ra_cons (re_kd T.kd_NAMED (by rfl) (re_ix (re_var 2) re_int)) (ra_cons (re_var 0) (ra_cons (re_var 1) (ra_cons (re_ix (re_var 2) re_int) ra_nil))))) ra_nil)))))
theorem ok_nexts (T : Tx K mg w) : ∀ d : Nat, FnOk P w K mg base (L2.CX P w) (9 + d) T.t_nexts.a T.t_nexts.d ["rows", "number", "behind"] (spD K mg 3 (m_nexts d))
  | 0 => fn_bad
  | d + 1 => by
   have ih_nexts := ok_nexts T d
   exact fn_body (k := 9 + d) T.t_nexts.F sc_nexts rfl fun cdv A outer s H Q E hr => by
       have nd := sc_nexts.nd
       have hu1 := hu_of hr
       have hu64 := hr.units
       have hu65 := hu65_of hr
       have tk := takes_of (X := cxOf (L2.CX P w) P w K mg base ["rows", "number", "behind", "found", "at", "row", "further", "then", "other"] "nexts" (defScope (topS 21)) T.t_nexts.a cdv A outer s H E) (E := E) rfl rfl rfl rfl
       exact (rss_cons (rs_set 3 nd rfl (by first | exact .inl rfl | exact .inr rfl) (re_lst ra_nil))
         (rss_cons (rs_for (passes_of rfl) rfl (ri_enumA (by rfl) T.n_enumerate (re_var 0)) (rg_tup rfl (rgs_cons (rg_name 4 nd rfl (by first | exact .inl rfl | exact .inr rfl)) (rgs_cons (rg_name 5 nd rfl (by first | exact .inl rfl | exact .inr rfl)) rgs_nil))) (rss_cons (rs_set 6 nd rfl (by first | exact .inl rfl | exact .inr rfl) (re_bin og_add (re_var 1) (re_call (ok_size_of T) (hr.mono (by omega)) (by rfl) T.t_size_of.g T.t_size_of.F.kp T.t_size_of.b tk (ra_cons (re_slice (re_var 0) (ro_some (re_var 4)) (ro_some (re_bin og_add (re_var 4) re_int))) ra_nil) (aC_len aN_len))))
         (rss_cons (rs_set 7 nd rfl (by first | exact .inl rfl | exact .inr rfl) (re_if (rt_cmp og_lt (re_bin og_add (re_var 4) re_int) (re_callB cr_len (by rfl) T.n_len (by decide +kernel) (ra_cons (re_var 0) ra_nil))) (re_var 6) (re_var 2)))
         (rss_cons (rs_if (rt_cmp (og_eq hu64) (re_ix (re_var 5) re_int) re_str) (rss_one (rs_expr (re_bm PySem.F.plainAttrs_list PySem.F.slot_list_append PySem.F.type_list_append om_append (re_var 3) (ra_cons (re_tup (ra_cons (re_var 1) (ra_cons re_int ra_nil))) ra_nil)))) (rss_one (rs_if (rt_cmp (og_eq hu64) (re_ix (re_var 5) re_int) re_str) (rss_cons (rs_set 8 nd rfl (by first | exact .inl rfl | exact .inr rfl) (re_bin og_add (re_bin og_add (re_var 1) re_int) (re_call (ok_size_of T) (hr.mono (by omega)) (by rfl) T.t_size_of.g T.t_size_of.F.kp T.t_size_of.b tk (ra_cons (re_ix (re_var 5) re_int) ra_nil) (aC_len aN_len))))
         (rss_cons (rs_expr (re_bm PySem.F.plainAttrs_list PySem.F.slot_list_append PySem.F.type_list_append om_append (re_var 3) (ra_cons (re_tup (ra_cons (re_var 1) (ra_cons (re_if (rt_cmp og_gt (re_callB cr_len (by rfl) T.n_len (by decide +kernel) (ra_cons (re_ix (re_var 5) re_int) ra_nil)) re_int) (re_bin og_add (re_var 1) re_int) (re_var 7)) ra_nil))) ra_nil)))
         (rss_cons (rs_expr (re_bm PySem.F.plainAttrs_list PySem.F.slot_list_append PySem.F.type_list_append om_append (re_var 3) (ra_cons (re_tup (ra_cons (re_var 1) (ra_cons (re_if (rt_cmp og_gt (re_callB cr_len (by rfl) T.n_len (by decide +kernel) (ra_cons (re_ix (re_var 5) re_int) ra_nil)) re_int) (re_var 8) (re_var 7)) ra_nil))) ra_nil)))
         (rss_one (rs_expr (re_bm PySem.F.plainAttrs_list PySem.F.slot_list_extend PySem.F.type_list_extend om_extend (re_var 3) (ra_cons (re_bin og_add (re_call ih_nexts (hr.mono (by omega)) (by rfl) T.t_nexts.g T.t_nexts.F.kp T.t_nexts.b tk (ra_cons (re_ix (re_var 5) re_int) (ra_cons (re_bin og_add (re_var 1) re_int) (ra_cons (re_var 7) ra_nil))) (aC_len (aC_len (aC_len aN_len)))) (re_call ih_nexts (hr.mono (by omega)) (by rfl) T.t_nexts.g T.t_nexts.F.kp T.t_nexts.b tk (ra_cons (re_ix (re_var 5) re_int) (ra_cons (re_var 8) (ra_cons (re_var 7) ra_nil))) (aC_len (aC_len (aC_len aN_len))))) ra_nil))))))) (rss_one (rs_expr (re_bm PySem.F.plainAttrs_list PySem.F.slot_list_append PySem.F.type_list_append om_append (re_var 3) (ra_cons (re_tup (ra_cons (re_var 1) (ra_cons (re_var 7) ra_nil))) ra_nil)))))))
         (rss_one (rs_set 1 nd rfl (by first | exact .inl rfl | exact .inr rfl) (re_var 6)))))))
         (rss_one (rs_ret (re_var 3)))))
theorem ok_tables (T : Tx K mg w) : FnOk P w K mg base (L2.CX P w) 16 T.t_tables.a T.t_tables.d ["program"] (spD K mg 1 m_tables) := fn_body (k := 15) T.t_tables.F sc_tables rfl fun cdv A outer s H Q E hr => by
    have nd := sc_tables.nd
    have hu1 := hu_of hr
    have hu64 := hr.units
    have hu65 := hu65_of hr
    have tk := takes_of (X := cxOf (L2.CX P w) P w K mg base ["program", "found", "title", "parameters", "rows", "number", "row", "at", "name", "one", "other"] "tables" (defScope (topS 22)) T.t_tables.a cdv A outer s H E) (E := E) rfl rfl rfl rfl
    exact (rss_cons (rs_set 1 nd rfl (by first | exact .inl rfl | exact .inr rfl) (re_lst ra_nil))
      (rss_cons (rs_for (passes_of rfl) rfl (ri_seq (re_meth0 T.g_Program T.cl_Program T.m_Program_definitions (ok_Program_definitions T) (hr.mono (by omega)) T.t_Program_definitions.b tk (re_var 0))) (rg_tup rfl (rgs_cons (rg_name 2 nd rfl (by first | exact .inl rfl | exact .inr rfl)) (rgs_cons (rg_name 3 nd rfl (by first | exact .inl rfl | exact .inr rfl)) (rgs_cons (rg_name 4 nd rfl (by first | exact .inl rfl | exact .inr rfl)) rgs_nil)))) (rss_cons (rs_expr (re_bm PySem.F.plainAttrs_list PySem.F.slot_list_extend PySem.F.type_list_extend om_extend (re_var 1) (ra_cons (re_lc (own := [("at", 7), ("name", 8)]) rfl nd (ri_enumA (by rfl) T.n_enumerate (re_var 3)) (blkOk_by (own := [("at", 7), ("name", 8)]) (N := ["program", "found", "title", "parameters", "rows", "number", "row", "at", "name", "one", "other"]) (sc := defScope (topS 22)) (by decide +kernel)) (fun _ _ _ _ _ => (rg_tup rfl (rgs_cons (rg_name 7 nd rfl (by first | exact .inl rfl | exact .inr rfl)) (rgs_cons (rg_name 8 nd rfl (by first | exact .inl rfl | exact .inr rfl)) rgs_nil)))) (fun _ _ _ _ _ => rts_nil) (fun _ _ _ _ _ => (re_tup (ra_cons re_str (ra_cons (re_var 2) (ra_cons (re_var 7) (ra_cons (re_var 8) ra_nil)))))) (by decide)) ra_nil)))
      (rss_cons (rs_expr (re_bm PySem.F.plainAttrs_list PySem.F.slot_list_append PySem.F.type_list_append om_append (re_var 1) (ra_cons (re_tup (ra_cons re_str (ra_cons (re_var 2) (ra_cons re_int (ra_cons (re_callB (cr_min2P rfl) (by rfl) T.n_min (by decide +kernel) (ra_cons re_int (ra_cons (re_callB cr_len (by rfl) T.n_len (by decide +kernel) (ra_cons (re_var 4) ra_nil)) ra_nil))) ra_nil))))) ra_nil)))
      (rss_cons (rs_expr (re_bm PySem.F.plainAttrs_list PySem.F.slot_list_extend PySem.F.type_list_extend om_extend (re_var 1) (ra_cons (re_lc (own := [("one", 9), ("other", 10)]) rfl nd (ri_seq (re_call (ok_nexts T 6) (hr.mono (by omega)) (by rfl) T.t_nexts.g T.t_nexts.F.kp T.t_nexts.b tk (ra_cons (re_var 4) (ra_cons re_int (ra_cons re_int ra_nil))) (aC_len (aC_len (aC_len aN_len))))) (blkOk_by (own := [("one", 9), ("other", 10)]) (N := ["program", "found", "title", "parameters", "rows", "number", "row", "at", "name", "one", "other"]) (sc := defScope (topS 22)) (by decide +kernel)) (fun _ _ _ _ _ => (rg_tup rfl (rgs_cons (rg_name 9 nd rfl (by first | exact .inl rfl | exact .inr rfl)) (rgs_cons (rg_name 10 nd rfl (by first | exact .inl rfl | exact .inr rfl)) rgs_nil)))) (fun _ _ _ _ _ => rts_nil) (fun _ _ _ _ _ => (re_tup (ra_cons re_str (ra_cons (re_var 2) (ra_cons (re_var 9) (ra_cons (re_var 10) ra_nil)))))) (by decide)) ra_nil)))
      (rss_one (rs_for (passes_of rfl) rfl (ri_seq (re_call (ok_numbered T) (hr.mono (by omega)) (by rfl) T.t_numbered.g T.t_numbered.F.kp T.t_numbered.b tk (ra_cons (re_var 4) ra_nil) (aC_len aN_len))) (rg_tup rfl (rgs_cons (rg_name 5 nd rfl (by first | exact .inl rfl | exact .inr rfl)) (rgs_cons (rg_name 6 nd rfl (by first | exact .inl rfl | exact .inr rfl)) rgs_nil))) (rss_one (rs_expr (re_bm PySem.F.plainAttrs_list PySem.F.slot_list_extend PySem.F.type_list_extend om_extend (re_var 1) (ra_cons (re_call (ok_facts_of_row T) (hr.mono (by omega)) (by rfl) T.t_facts_of_row.g T.t_facts_of_row.F.kp T.t_facts_of_row.b tk (ra_cons (re_var 2) (ra_cons (re_var 5) (ra_cons (re_var 6) ra_nil))) (aC_len (aC_len (aC_len aN_len)))) ra_nil))))))))))
      (rss_one (rs_ret (re_sortSet rfl hu64 (by rfl) T.n_sorted (by rfl) T.n_set (re_var 1))))))
theorem ok__law_deck (T : Tx K mg w) : FnOk P w K mg base (L2.CX P w) 1 T.t__law_deck.a T.t__law_deck.d ["_law_script"] (spD K mg 1 m__law_deck) := fn_body (k := 0) T.t__law_deck.F sc__law_deck rfl fun cdv A outer s H Q E hr => by
    have nd := sc__law_deck.nd
    have hu1 := hu_of hr
    have hu64 := hr.units
    have hu65 := hu65_of hr
    have tk := takes_of (X := cxOf (L2.CX P w) P w K mg base ["_law_script", "_law_great", "_law_fold", "_law_cell"] "_law_deck" (defScope (topS 24)) T.t__law_deck.a cdv A outer s H E) (E := E) rfl rfl rfl rfl
    exact (rss_cons (rs_set 1 nd rfl (by first | exact .inl rfl | exact .inr rfl) (re_lst ra_nil))
      (rss_cons (rs_set 2 nd rfl (by first | exact .inl rfl | exact .inr rfl) re_int)
      (rss_cons (rs_for (passes_of rfl) rfl (ri_seq (re_var 0)) (rg_name 3 nd rfl (by first | exact .inl rfl | exact .inr rfl)) (rss_cons (rs_set 2 nd rfl (by first | exact .inl rfl | exact .inr rfl) (re_bin og_mod (re_bin og_add (re_bin og_mul (re_var 2) re_int) (re_var 3)) re_int))
      (rss_one (rs_if (rt_cmp og_ge (re_callB cr_abs (by rfl) T.n_abs (by decide +kernel) (ra_cons (re_var 3) ra_nil)) (re_bin og_pow re_int re_int)) (rss_one (rs_expr (re_bm PySem.F.plainAttrs_list PySem.F.slot_list_insert PySem.F.type_list_insert om_insert (re_var 1) (ra_cons re_int (ra_cons (re_bin og_sub (re_callB cr_abs (by rfl) T.n_abs (by decide +kernel) (ra_cons (re_var 3) ra_nil)) (re_bin og_pow re_int re_int)) ra_nil))))) rss_nil))))
      (rss_one (rs_ret (re_lst (ra_cons (re_var 1) (ra_cons (re_var 2) (ra_cons re_int ra_nil)))))))))
theorem ok__law_take (T : Tx K mg w) : FnOk P w K mg base (L2.CX P w) 1 T.t__law_take.a T.t__law_take.d ["_law_deck_here", "_law_many"] (spD K mg 2 m__law_take) := fn_body (k := 0) T.t__law_take.F sc__law_take rfl fun cdv A outer s H Q E hr => by
    have nd := sc__law_take.nd
    have hu1 := hu_of hr
    have hu64 := hr.units
    have hu65 := hu65_of hr
    have tk := takes_of (X := cxOf (L2.CX P w) P w K mg base ["_law_deck_here", "_law_many", "_law_k", "_law_mixed", "_law_drawn"] "_law_take" (defScope (topS 25)) T.t__law_take.a cdv A outer s H E) (E := E) rfl rfl rfl rfl
    exact (rss_cons (rs_while (passes_of rfl) (rt_of (rw_and (rt_cmp (og_ne hu64) (re_ix (re_var 0) re_int) (re_lst ra_nil)) (rw_and1 (rt_cmp og_lt (re_ix (re_ix (re_var 0) re_int) (re_neg re_int)) re_int)))) (rss_one (rs_expr (re_bm0 PySem.F.plainAttrs_list PySem.F.slot_list_pop PySem.F.type_list_pop om_pop (re_ix (re_var 0) re_int)))))
      (rss_cons (rs_if (rt_cmp (og_ne hu64) (re_ix (re_var 0) re_int) (re_lst ra_nil)) (rss_cons (rs_set 4 nd rfl (by first | exact .inl rfl | exact .inr rfl) (re_bin og_mod (re_ix (re_ix (re_var 0) re_int) (re_neg re_int)) (re_var 1)))
      (rss_cons (rs_sub (re_bin og_fdiv (re_ix (re_ix (re_var 0) re_int) (re_neg re_int)) (re_var 1)) (re_ix (re_var 0) re_int) (re_neg re_int))
      (rss_one (rs_ret (re_var 4))))) rss_nil)
      (rss_cons (rs_sub (re_bin og_add (re_ix (re_var 0) re_int) re_int) (re_var 0) re_int)
      (rss_cons (rs_set 2 nd rfl (by first | exact .inl rfl | exact .inr rfl) (re_ix (re_var 0) re_int))
      (rss_cons (rs_set 3 nd rfl (by first | exact .inl rfl | exact .inr rfl) (re_bin og_add (re_bin og_mul (re_bin og_add (re_ix (re_var 0) re_int) re_int) (re_bin og_pow (re_bin og_add (re_var 2) re_int) re_int)) (re_bin og_mul re_int (re_var 2))))
      (rss_one (rs_ret (re_bin og_mod (re_bin og_fdiv (re_bin og_mod (re_bin og_pow (re_bin og_mod (re_var 3) re_int) re_int) re_int) re_int) (re_var 1)))))))))
theorem ok__law_size (T : Tx K mg w) : ∀ d : Nat, FnOk P w K mg base (L2.CX P w) (1 + d) T.t__law_size.a T.t__law_size.d ["_law_rows"] (spD K mg 1 (m__law_size d))
  | 0 => fn_bad
  | d + 1 => by
   have ih__law_size := ok__law_size T d
   exact fn_body (k := 1 + d) T.t__law_size.F sc__law_size rfl fun cdv A outer s H Q E hr => by
       have nd := sc__law_size.nd
       have hu1 := hu_of hr
       have hu64 := hr.units
       have hu65 := hu65_of hr
       have tk := takes_of (X := cxOf (L2.CX P w) P w K mg base ["_law_rows", "_law_many", "_law_row"] "_law_size" (defScope (topS 26)) T.t__law_size.a cdv A outer s H E) (E := E) rfl rfl rfl rfl
       exact (rss_cons (rs_set 1 nd rfl (by first | exact .inl rfl | exact .inr rfl) re_int)
         (rss_cons (rs_for (passes_of rfl) rfl (ri_seq (re_var 0)) (rg_name 2 nd rfl (by first | exact .inl rfl | exact .inr rfl)) (rss_cons (rs_set 1 nd rfl (by first | exact .inl rfl | exact .inr rfl) (re_bin og_add (re_var 1) re_int))
         (rss_one (rs_if (rt_cmp (og_eq hu64) (re_ix (re_var 2) re_int) re_str) (rss_one (rs_set 1 nd rfl (by first | exact .inl rfl | exact .inr rfl) (re_bin og_add (re_bin og_add (re_var 1) (re_call ih__law_size (hr.mono (by omega)) (by rfl) T.t__law_size.g T.t__law_size.F.kp T.t__law_size.b tk (ra_cons (re_ix (re_var 2) re_int) ra_nil) (aC_len aN_len))) (re_call ih__law_size (hr.mono (by omega)) (by rfl) T.t__law_size.g T.t__law_size.F.kp T.t__law_size.b tk (ra_cons (re_ix (re_var 2) re_int) ra_nil) (aC_len aN_len))))) rss_nil))))
         (rss_one (rs_ret (re_var 1)))))
theorem ok__law_block (T : Tx K mg w) : ∀ d : Nat, FnOk P w K mg base (L2.CX P w) (2 + d) T.t__law_block.a T.t__law_block.d ["_law_deck_here", "_law_room", "_law_deep"] (spD K mg 3 (m__law_block d))
  | 0 => fn_bad
  | d + 1 => by
   have ih__law_block := ok__law_block T d
   exact fn_body (k := 2 + d) T.t__law_block.F sc__law_block rfl fun cdv A outer s H Q E hr => by
       have nd := sc__law_block.nd
       have hu1 := hu_of hr
       have hu64 := hr.units
       have hu65 := hu65_of hr
       have tk := takes_of (X := cxOf (L2.CX P w) P w K mg base ["_law_deck_here", "_law_room", "_law_deep", "_law_rows", "_law_k", "_law_pick"] "_law_block" (defScope (topS 27)) T.t__law_block.a cdv A outer s H E) (E := E) rfl rfl rfl rfl
       exact (rss_cons (rs_set 3 nd rfl (by first | exact .inl rfl | exact .inr rfl) (re_lst ra_nil))
         (rss_cons (rs_for (passes_of rfl) rfl (ri_range1 (by rfl) T.n_range (re_call (ok__law_take T) (hr.mono (by omega)) (by rfl) T.t__law_take.g T.t__law_take.F.kp T.t__law_take.b tk (ra_cons (re_var 0) (ra_cons (re_ix (re_lst (ra_cons re_int (ra_cons re_int (ra_cons re_int (ra_cons re_int ra_nil))))) (re_bin og_sub (re_var 2) re_int)) ra_nil)) (aC_len (aC_len aN_len)))) (rg_name 4 nd rfl (by first | exact .inl rfl | exact .inr rfl)) (rss_one (rs_if (rt_cmp og_gt (re_ix (re_var 1) re_int) re_int) (rss_cons (rs_sub (re_bin og_sub (re_ix (re_var 1) re_int) re_int) (re_var 1) re_int)
         (rss_cons (rs_set 5 nd rfl (by first | exact .inl rfl | exact .inr rfl) (re_call (ok__law_take T) (hr.mono (by omega)) (by rfl) T.t__law_take.g T.t__law_take.F.kp T.t__law_take.b tk (ra_cons (re_var 0) (ra_cons re_int ra_nil)) (aC_len (aC_len aN_len))))
         (rss_one (rs_if (rt_of (rw_and (rt_cmp og_lt (re_var 5) re_int) (rw_and1 (rt_cmp og_lt (re_var 2) re_int)))) (rss_one (rs_expr (re_bm PySem.F.plainAttrs_list PySem.F.slot_list_append PySem.F.type_list_append om_append (re_var 3) (ra_cons (re_tup (ra_cons re_str (ra_cons re_str (ra_cons (re_call ih__law_block (hr.mono (by omega)) (by rfl) T.t__law_block.g T.t__law_block.F.kp T.t__law_block.b tk (ra_cons (re_var 0) (ra_cons (re_var 1) (ra_cons (re_bin og_add (re_var 2) re_int) ra_nil))) (aC_len (aC_len (aC_len aN_len)))) (ra_cons (re_call ih__law_block (hr.mono (by omega)) (by rfl) T.t__law_block.g T.t__law_block.F.kp T.t__law_block.b tk (ra_cons (re_var 0) (ra_cons (re_var 1) (ra_cons (re_bin og_add (re_var 2) re_int) ra_nil))) (aC_len (aC_len (aC_len aN_len)))) ra_nil))))) ra_nil)))) (rss_one (rs_expr (re_bm PySem.F.plainAttrs_list PySem.F.slot_list_append PySem.F.type_list_append om_append (re_var 3) (ra_cons (re_tup (ra_cons (re_ix (re_lst (ra_cons re_str (ra_cons re_str (ra_cons re_str ra_nil)))) (re_call (ok__law_take T) (hr.mono (by omega)) (by rfl) T.t__law_take.g T.t__law_take.F.kp T.t__law_take.b tk (ra_cons (re_var 0) (ra_cons re_int ra_nil)) (aC_len (aC_len aN_len)))) (ra_cons re_str ra_nil))) ra_nil)))))))) rss_nil)))
         (rss_one (rs_ret (re_callTy cr_tuple (by rfl) T.n_tuple (by decide +kernel) (ra_cons (re_var 3) ra_nil))))))
theorem ok__law_back (T : Tx K mg w) : ∀ d : Nat, FnOk P w K mg base (L2.CX P w) (8 + d) T.t__law_back.a T.t__law_back.d ["_law_rows", "_law_number", "_law_behind", "_law_found"] (spD K mg 4 (m__law_back d))
  | 0 => fn_bad
  | d + 1 => by
   have ih__law_back := ok__law_back T d
   exact fn_body (k := 8 + d) T.t__law_back.F sc__law_back rfl fun cdv A outer s H Q E hr => by
       have nd := sc__law_back.nd
       have hu1 := hu_of hr
       have hu64 := hr.units
       have hu65 := hu65_of hr
       have tk := takes_of (X := cxOf (L2.CX P w) P w K mg base ["_law_rows", "_law_number", "_law_behind", "_law_found", "_law_ends", "_law_row", "_law_middle"] "_law_back" (defScope (topS 28)) T.t__law_back.a cdv A outer s H E) (E := E) rfl rfl rfl rfl
       exact (rss_cons (rs_set 4 nd rfl (by first | exact .inl rfl | exact .inr rfl) (re_bin og_add (re_var 1) (re_call (ok__law_size T 6) (hr.mono (by omega)) (by rfl) T.t__law_size.g T.t__law_size.F.kp T.t__law_size.b tk (ra_cons (re_var 0) ra_nil) (aC_len aN_len))))
         (rss_cons (rs_for (passes_of rfl) rfl (ri_seq (re_revA (re_var 0))) (rg_name 5 nd rfl (by first | exact .inl rfl | exact .inr rfl)) (rss_cons (rs_set 4 nd rfl (by first | exact .inl rfl | exact .inr rfl) (re_bin og_sub (re_var 4) (re_call (ok__law_size T 6) (hr.mono (by omega)) (by rfl) T.t__law_size.g T.t__law_size.F.kp T.t__law_size.b tk (ra_cons (re_tup (ra_cons (re_var 5) ra_nil)) ra_nil) (aC_len aN_len))))
         (rss_cons (rs_if (rt_cmp (og_eq hu64) (re_ix (re_var 5) re_int) re_str) (rss_one (rs_expr (re_bm PySem.F.plainAttrs_list PySem.F.slot_list_append PySem.F.type_list_append om_append (re_var 3) (ra_cons (re_tup (ra_cons (re_var 4) (ra_cons re_int ra_nil))) ra_nil)))) rss_nil)
         (rss_cons (rs_if (rt_cmp (og_eq hu64) (re_ix (re_var 5) re_int) re_str) (rss_one (rs_expr (re_bm PySem.F.plainAttrs_list PySem.F.slot_list_append PySem.F.type_list_append om_append (re_var 3) (ra_cons (re_tup (ra_cons (re_var 4) (ra_cons (re_var 2) ra_nil))) ra_nil)))) rss_nil)
         (rss_cons (rs_if (rt_cmp (og_eq hu64) (re_ix (re_var 5) re_int) re_str) (rss_cons (rs_set 6 nd rfl (by first | exact .inl rfl | exact .inr rfl) (re_bin og_add (re_bin og_add (re_var 4) re_int) (re_call (ok__law_size T 6) (hr.mono (by omega)) (by rfl) T.t__law_size.g T.t__law_size.F.kp T.t__law_size.b tk (ra_cons (re_ix (re_var 5) re_int) ra_nil) (aC_len aN_len))))
         (rss_cons (rs_expr (re_bm PySem.F.plainAttrs_list PySem.F.slot_list_append PySem.F.type_list_append om_append (re_var 3) (ra_cons (re_tup (ra_cons (re_var 4) (ra_cons (re_call ih__law_back (hr.mono (by omega)) (by rfl) T.t__law_back.g T.t__law_back.F.kp T.t__law_back.b tk (ra_cons (re_ix (re_var 5) re_int) (ra_cons (re_bin og_add (re_var 4) re_int) (ra_cons (re_var 2) (ra_cons (re_var 3) ra_nil)))) (aC_len (aC_len (aC_len (aC_len aN_len))))) ra_nil))) ra_nil)))
         (rss_one (rs_expr (re_bm PySem.F.plainAttrs_list PySem.F.slot_list_append PySem.F.type_list_append om_append (re_var 3) (ra_cons (re_tup (ra_cons (re_var 4) (ra_cons (re_call ih__law_back (hr.mono (by omega)) (by rfl) T.t__law_back.g T.t__law_back.F.kp T.t__law_back.b tk (ra_cons (re_ix (re_var 5) re_int) (ra_cons (re_var 6) (ra_cons (re_var 2) (ra_cons (re_var 3) ra_nil)))) (aC_len (aC_len (aC_len (aC_len aN_len))))) ra_nil))) ra_nil)))))) rss_nil)
         (rss_one (rs_set 2 nd rfl (by first | exact .inl rfl | exact .inr rfl) (re_var 4))))))))
         (rss_one (rs_ret (re_var 2)))))
theorem ok_law (T : Tx K mg w) : FnOk P w K mg base (L2.CX P w) 18 T.t_law.a T.t_law.d ["_law_script"] (spD K mg 1 m_law) := fn_body (k := 17) T.t_law.F sc_law rfl fun cdv A outer s H Q E hr => by
    have nd := sc_law.nd
    have hu1 := hu_of hr
    have hu64 := hr.units
    have hu65 := hu65_of hr
    have tk := takes_of (X := cxOf (L2.CX P w) P w K mg base ["_law_script", "_law_deck_here", "_law_k", "_law_book", "_law_due", "_law_some", "_law_title", "_law_heads", "_law_rows", "_law_found", "_law_fact", "_law_one", "_law_other"] "law" (defScope (topS 29)) T.t_law.a cdv A outer s H E) (E := E) rfl rfl rfl rfl
    exact (rss_cons (rs_set 1 nd rfl (by first | exact .inl rfl | exact .inr rfl) (re_call (ok__law_deck T) (hr.mono (by omega)) (by rfl) T.t__law_deck.g T.t__law_deck.F.kp T.t__law_deck.b tk (ra_cons (re_var 0) ra_nil) (aC_len aN_len)))
      (rss_cons (rs_for (passes_of rfl) rfl (ri_range1 (by rfl) T.n_range (re_bin og_add re_int (re_callB (cr_min2P rfl) (by rfl) T.n_min (by decide +kernel) (ra_cons re_int (ra_cons (re_callB cr_len (by rfl) T.n_len (by decide +kernel) (ra_cons (re_var 0) ra_nil)) ra_nil))))) (rg_name 2 nd rfl (by first | exact .inl rfl | exact .inr rfl)) (rss_cons (rs_set 3 nd rfl (by first | exact .inl rfl | exact .inr rfl) (re_lst (ra_cons (re_tup (ra_cons re_str (ra_cons (re_tup ra_nil) (ra_cons (re_call (ok__law_block T 5) (hr.mono (by omega)) (by rfl) T.t__law_block.g T.t__law_block.F.kp T.t__law_block.b tk (ra_cons (re_var 1) (ra_cons (re_lst (ra_cons re_int ra_nil)) (ra_cons re_int ra_nil))) (aC_len (aC_len (aC_len aN_len)))) ra_nil)))) (ra_cons (re_tup (ra_cons re_str (ra_cons (re_tup (ra_cons re_str ra_nil)) (ra_cons (re_call (ok__law_block T 5) (hr.mono (by omega)) (by rfl) T.t__law_block.g T.t__law_block.F.kp T.t__law_block.b tk (ra_cons (re_var 1) (ra_cons (re_lst (ra_cons re_int ra_nil)) (ra_cons re_int ra_nil))) (aC_len (aC_len (aC_len aN_len)))) ra_nil)))) ra_nil))))
      (rss_cons (rs_set 3 nd rfl (by first | exact .inl rfl | exact .inr rfl) (re_step (re_var 3) (re_ix (re_lst (ra_cons re_int (ra_cons (re_neg re_int) ra_nil))) (re_call (ok__law_take T) (hr.mono (by omega)) (by rfl) T.t__law_take.g T.t__law_take.F.kp T.t__law_take.b tk (ra_cons (re_var 1) (ra_cons re_int ra_nil)) (aC_len (aC_len aN_len))))))
      (rss_cons (rs_set 4 nd rfl (by first | exact .inl rfl | exact .inr rfl) (re_lst ra_nil))
      (rss_cons (rs_for (passes_of rfl) rfl (ri_seq (re_var 3)) (rg_tup rfl (rgs_cons (rg_name 6 nd rfl (by first | exact .inl rfl | exact .inr rfl)) (rgs_cons (rg_name 7 nd rfl (by first | exact .inl rfl | exact .inr rfl)) (rgs_cons (rg_name 8 nd rfl (by first | exact .inl rfl | exact .inr rfl)) rgs_nil)))) (rss_cons (rs_set 9 nd rfl (by first | exact .inl rfl | exact .inr rfl) (re_lst ra_nil))
      (rss_cons (rs_expr (re_bm PySem.F.plainAttrs_list PySem.F.slot_list_append PySem.F.type_list_append om_append (re_var 9) (ra_cons (re_tup (ra_cons re_int (ra_cons (re_call (ok__law_back T 6) (hr.mono (by omega)) (by rfl) T.t__law_back.g T.t__law_back.F.kp T.t__law_back.b tk (ra_cons (re_var 8) (ra_cons re_int (ra_cons re_int (ra_cons (re_var 9) ra_nil)))) (aC_len (aC_len (aC_len (aC_len aN_len))))) ra_nil))) ra_nil)))
      (rss_one (rs_set 4 nd rfl (by first | exact .inl rfl | exact .inr rfl) (re_bin og_add (re_var 4) (re_lc (own := [("_law_one", 11), ("_law_other", 12)]) rfl nd (ri_seq (re_var 9)) (blkOk_by (own := [("_law_one", 11), ("_law_other", 12)]) (N := ["_law_script", "_law_deck_here", "_law_k", "_law_book", "_law_due", "_law_some", "_law_title", "_law_heads", "_law_rows", "_law_found", "_law_fact", "_law_one", "_law_other"]) (sc := defScope (topS 29)) (by decide +kernel)) (fun _ _ _ _ _ => (rg_tup rfl (rgs_cons (rg_name 11 nd rfl (by first | exact .inl rfl | exact .inr rfl)) (rgs_cons (rg_name 12 nd rfl (by first | exact .inl rfl | exact .inr rfl)) rgs_nil)))) (fun _ _ _ _ _ => rts_nil) (fun _ _ _ _ _ => (re_tup (ra_cons re_str (ra_cons (re_var 6) (ra_cons (re_var 11) (ra_cons (re_var 12) ra_nil)))))) (by decide))))))))
      (rss_cons (rs_setLc 5 (own := [("_law_fact", 10)]) rfl nd rfl rfl (sw_true rfl rfl rfl (by decide +kernel)) (ri_seq (re_call (ok_tables T) (hr.mono (by omega)) (by rfl) T.t_tables.g T.t_tables.F.kp T.t_tables.b tk (ra_cons (re_make T.mk_Program (ok_Program_init T) (hr.mono (by omega)) (by rfl) T.g_Program T.t_Program_init.b tk (ra_cons (re_callTy cr_list (by rfl) T.n_list (by decide +kernel) (ra_cons (re_var 3) ra_nil)) ra_nil) (aC_len aN_len)) ra_nil) (aC_len aN_len))) (blkOk_by (own := [("_law_fact", 10)]) (N := ["_law_script", "_law_deck_here", "_law_k", "_law_book", "_law_due", "_law_some", "_law_title", "_law_heads", "_law_rows", "_law_found", "_law_fact", "_law_one", "_law_other"]) (sc := defScope (topS 29)) (by decide +kernel)) (fun _ _ _ _ _ => (rg_name 10 nd rfl (by first | exact .inl rfl | exact .inr rfl))) (fun _ _ _ _ _ => (rts_one (rt_cmp (og_eq hu64) (re_ix (re_var 10) re_int) re_str))) (fun _ _ _ _ _ => (re_var 10)) (by decide))
      (rss_one (rs_if (rt_cmp (og_ne hu64) (re_var 5) (re_sortSet rfl hu64 (by rfl) T.n_sorted (by rfl) T.n_set (re_var 4))) (rss_one (rs_ret re_bl)) rss_nil))))))))
      (rss_one (rs_ret re_bl))))
end
set_option maxHeartbeats 4000000 in
/-- the facts that the head finds, put together -/
noncomputable def mkTx {K : PySem.W.Frag} {w : World} {h : Heap} {mg : Str → Option Value} (X : K.In h) (G : h.Ns mainGlobals mg) {f_is_name : Addr} {oc_is_name kV_is_name dc_is_name pm_is_name cd_is_name ct_is_name : Value} {od_is_name an_is_name : Option Addr} {sl_is_name : Array (Option Value)} {f_each_row : Addr} {oc_each_row kV_each_row dc_each_row pm_each_row cd_each_row ct_each_row : Value} {od_each_row an_each_row : Option Addr} {sl_each_row : Array (Option Value)} {f_numbered : Addr} {oc_numbered kV_numbered dc_numbered pm_numbered cd_numbered ct_numbered : Value} {od_numbered an_numbered : Option Addr} {sl_numbered : Array (Option Value)} {f_size_of : Addr} {oc_size_of kV_size_of dc_size_of pm_size_of cd_size_of ct_size_of : Value} {od_size_of an_size_of : Option Addr} {sl_size_of : Array (Option Value)} {f_names_asked : Addr} {oc_names_asked kV_names_asked dc_names_asked pm_names_asked cd_names_asked ct_names_asked : Value} {od_names_asked an_names_asked : Option Addr} {sl_names_asked : Array (Option Value)} {f_call_of : Addr} {oc_call_of kV_call_of dc_call_of pm_call_of cd_call_of ct_call_of : Value} {od_call_of an_call_of : Option Addr} {sl_call_of : Array (Option Value)} {f_names_in : Addr} {oc_names_in kV_names_in dc_names_in pm_names_in cd_names_in ct_names_in : Value} {od_names_in an_names_in : Option Addr} {sl_names_in : Array (Option Value)} {f_is_sound : Addr} {oc_is_sound kV_is_sound dc_is_sound pm_is_sound cd_is_sound ct_is_sound : Value} {od_is_sound an_is_sound : Option Addr} {sl_is_sound : Array (Option Value)} {f_Program_init : Addr} {oc_Program_init kV_Program_init dc_Program_init pm_Program_init cd_Program_init ct_Program_init : Value} {od_Program_init an_Program_init : Option Addr} {sl_Program_init : Array (Option Value)} {f_Program_definitions : Addr} {oc_Program_definitions kV_Program_definitions dc_Program_definitions pm_Program_definitions cd_Program_definitions ct_Program_definitions : Value} {od_Program_definitions an_Program_definitions : Option Addr} {sl_Program_definitions : Array (Option Value)} {f_facts_of_value : Addr} {oc_facts_of_value kV_facts_of_value dc_facts_of_value pm_facts_of_value cd_facts_of_value ct_facts_of_value : Value} {od_facts_of_value an_facts_of_value : Option Addr} {sl_facts_of_value : Array (Option Value)} {f_facts_of_row : Addr} {oc_facts_of_row kV_facts_of_row dc_facts_of_row pm_facts_of_row cd_facts_of_row ct_facts_of_row : Value} {od_facts_of_row an_facts_of_row : Option Addr} {sl_facts_of_row : Array (Option Value)} {f_nexts : Addr} {oc_nexts kV_nexts dc_nexts pm_nexts cd_nexts ct_nexts : Value} {od_nexts an_nexts : Option Addr} {sl_nexts : Array (Option Value)} {f_tables : Addr} {oc_tables kV_tables dc_tables pm_tables cd_tables ct_tables : Value} {od_tables an_tables : Option Addr} {sl_tables : Array (Option Value)} {f__law_deck : Addr} {oc__law_deck kV__law_deck dc__law_deck pm__law_deck cd__law_deck ct__law_deck : Value} {od__law_deck an__law_deck : Option Addr} {sl__law_deck : Array (Option Value)} {f__law_take : Addr} {oc__law_take kV__law_take dc__law_take pm__law_take cd__law_take ct__law_take : Value} {od__law_take an__law_take : Option Addr} {sl__law_take : Array (Option Value)} {f__law_size : Addr} {oc__law_size kV__law_size dc__law_size pm__law_size cd__law_size ct__law_size : Value} {od__law_size an__law_size : Option Addr} {sl__law_size : Array (Option Value)} {f__law_block : Addr} {oc__law_block kV__law_block dc__law_block pm__law_block cd__law_block ct__law_block : Value} {od__law_block an__law_block : Option Addr} {sl__law_block : Array (Option Value)} {f__law_back : Addr} {oc__law_back kV__law_back dc__law_back pm__law_back cd__law_back ct__law_back : Value} {od__law_back an__law_back : Option Addr} {sl__law_back : Array (Option Value)} {f_law : Addr} {oc_law kV_law dc_law pm_law cd_law ct_law : Value} {od_law an_law : Option Addr} {sl_law : Array (Option Value)} {C_Program : Addr} {f_einit : Addr} {oc_einit kV_einit dc_einit pm_einit cd_einit ct_einit : Value} {od_einit an_einit : Option Addr} {sl_einit : Array (Option Value)} {E_NoProgram N_NoProgram : Addr} {nm_NoProgram qn_NoProgram : Str} {bs_NoProgram bm_NoProgram sub_NoProgram : List Value} {sn_NoProgram : List Str} {ab_NoProgram : Bool} {col_NoProgram : Option Bool} {dd_NoProgram : Option Addr} {m0_NoProgram m1_NoProgram m2_NoProgram m3_NoProgram m5_NoProgram : Option Value} {E_AskError N_AskError : Addr} {nm_AskError qn_AskError : Str} {bs_AskError bm_AskError sub_AskError : List Value} {sn_AskError : List Str} {ab_AskError : Bool} {col_AskError : Option Bool} {dd_AskError : Option Addr} {m0_AskError m1_AskError m2_AskError m3_AskError m5_AskError : Option Value} {k_LETTERS : Tok} {k_MOST_LETTERS : Tok} {k_MAIN : Tok} {D_NAMED : Addr} {en_NAMED : Array DictEntry} {ep_NAMED : Nat} {tk_NAMED_0 : Tok} {tk_NAMED_1 : Tok} {tk_NAMED_2 : Tok} {tk_NAMED_3 : Tok} {tk_NAMED_4 : Tok} {tk_NAMED_5 : Tok}
  (l_is_name : K.lookup f_is_name = some ⟨oc_is_name, od_is_name, .func (PySem.W.fnOf "is_name" "is_name" (defArgs (topS 8)) (defBody (topS 8)) (defScope (topS 8)) .none kV_is_name dc_is_name pm_is_name an_is_name cd_is_name ct_is_name), sl_is_name⟩) (c_is_name : PySem.W.codeIn K cd_is_name "is_name" = true) (k_is_name : PySem.W.keepIn K (.ref f_is_name) = true)
  (a_is_name : PySem.W.nsIn K mainGlobals "is_name" = some (some (.ref f_is_name)))
  (l_each_row : K.lookup f_each_row = some ⟨oc_each_row, od_each_row, .func (PySem.W.fnOf "each_row" "each_row" (defArgs (topS 9)) (defBody (topS 9)) (defScope (topS 9)) .none kV_each_row dc_each_row pm_each_row an_each_row cd_each_row ct_each_row), sl_each_row⟩) (c_each_row : PySem.W.codeIn K cd_each_row "each_row" = true) (k_each_row : PySem.W.keepIn K (.ref f_each_row) = true)
  (a_each_row : PySem.W.nsIn K mainGlobals "each_row" = some (some (.ref f_each_row)))
  (l_numbered : K.lookup f_numbered = some ⟨oc_numbered, od_numbered, .func (PySem.W.fnOf "numbered" "numbered" (defArgs (topS 10)) (defBody (topS 10)) (defScope (topS 10)) .none kV_numbered dc_numbered pm_numbered an_numbered cd_numbered ct_numbered), sl_numbered⟩) (c_numbered : PySem.W.codeIn K cd_numbered "numbered" = true) (k_numbered : PySem.W.keepIn K (.ref f_numbered) = true)
  (a_numbered : PySem.W.nsIn K mainGlobals "numbered" = some (some (.ref f_numbered)))
  (l_size_of : K.lookup f_size_of = some ⟨oc_size_of, od_size_of, .func (PySem.W.fnOf "size_of" "size_of" (defArgs (topS 11)) (defBody (topS 11)) (defScope (topS 11)) .none kV_size_of dc_size_of pm_size_of an_size_of cd_size_of ct_size_of), sl_size_of⟩) (c_size_of : PySem.W.codeIn K cd_size_of "size_of" = true) (k_size_of : PySem.W.keepIn K (.ref f_size_of) = true)
  (a_size_of : PySem.W.nsIn K mainGlobals "size_of" = some (some (.ref f_size_of)))
  (l_names_asked : K.lookup f_names_asked = some ⟨oc_names_asked, od_names_asked, .func (PySem.W.fnOf "names_asked" "names_asked" (defArgs (topS 12)) (defBody (topS 12)) (defScope (topS 12)) .none kV_names_asked dc_names_asked pm_names_asked an_names_asked cd_names_asked ct_names_asked), sl_names_asked⟩) (c_names_asked : PySem.W.codeIn K cd_names_asked "names_asked" = true) (k_names_asked : PySem.W.keepIn K (.ref f_names_asked) = true)
  (a_names_asked : PySem.W.nsIn K mainGlobals "names_asked" = some (some (.ref f_names_asked)))
  (l_call_of : K.lookup f_call_of = some ⟨oc_call_of, od_call_of, .func (PySem.W.fnOf "call_of" "call_of" (defArgs (topS 13)) (defBody (topS 13)) (defScope (topS 13)) .none kV_call_of dc_call_of pm_call_of an_call_of cd_call_of ct_call_of), sl_call_of⟩) (c_call_of : PySem.W.codeIn K cd_call_of "call_of" = true) (k_call_of : PySem.W.keepIn K (.ref f_call_of) = true)
  (a_call_of : PySem.W.nsIn K mainGlobals "call_of" = some (some (.ref f_call_of)))
  (l_names_in : K.lookup f_names_in = some ⟨oc_names_in, od_names_in, .func (PySem.W.fnOf "names_in" "names_in" (defArgs (topS 14)) (defBody (topS 14)) (defScope (topS 14)) .none kV_names_in dc_names_in pm_names_in an_names_in cd_names_in ct_names_in), sl_names_in⟩) (c_names_in : PySem.W.codeIn K cd_names_in "names_in" = true) (k_names_in : PySem.W.keepIn K (.ref f_names_in) = true)
  (a_names_in : PySem.W.nsIn K mainGlobals "names_in" = some (some (.ref f_names_in)))
  (l_is_sound : K.lookup f_is_sound = some ⟨oc_is_sound, od_is_sound, .func (PySem.W.fnOf "is_sound" "is_sound" (defArgs (topS 15)) (defBody (topS 15)) (defScope (topS 15)) .none kV_is_sound dc_is_sound pm_is_sound an_is_sound cd_is_sound ct_is_sound), sl_is_sound⟩) (c_is_sound : PySem.W.codeIn K cd_is_sound "is_sound" = true) (k_is_sound : PySem.W.keepIn K (.ref f_is_sound) = true)
  (a_is_sound : PySem.W.nsIn K mainGlobals "is_sound" = some (some (.ref f_is_sound)))
  (l_Program_init : K.lookup f_Program_init = some ⟨oc_Program_init, od_Program_init, .func (PySem.W.fnOf "__init__" "Program.__init__" (defArgs (inClass (topS 16) 0)) (defBody (inClass (topS 16) 0)) (defScope (inClass (topS 16) 0)) .none kV_Program_init dc_Program_init pm_Program_init an_Program_init cd_Program_init ct_Program_init), sl_Program_init⟩) (c_Program_init : PySem.W.codeIn K cd_Program_init "Program.__init__" = true) (k_Program_init : PySem.W.keepIn K (.ref f_Program_init) = true)
  (l_Program_definitions : K.lookup f_Program_definitions = some ⟨oc_Program_definitions, od_Program_definitions, .func (PySem.W.fnOf "definitions" "Program.definitions" (defArgs (inClass (topS 16) 1)) (defBody (inClass (topS 16) 1)) (defScope (inClass (topS 16) 1)) .none kV_Program_definitions dc_Program_definitions pm_Program_definitions an_Program_definitions cd_Program_definitions ct_Program_definitions), sl_Program_definitions⟩) (c_Program_definitions : PySem.W.codeIn K cd_Program_definitions "Program.definitions" = true) (k_Program_definitions : PySem.W.keepIn K (.ref f_Program_definitions) = true)
  (l_facts_of_value : K.lookup f_facts_of_value = some ⟨oc_facts_of_value, od_facts_of_value, .func (PySem.W.fnOf "facts_of_value" "facts_of_value" (defArgs (topS 19)) (defBody (topS 19)) (defScope (topS 19)) .none kV_facts_of_value dc_facts_of_value pm_facts_of_value an_facts_of_value cd_facts_of_value ct_facts_of_value), sl_facts_of_value⟩) (c_facts_of_value : PySem.W.codeIn K cd_facts_of_value "facts_of_value" = true) (k_facts_of_value : PySem.W.keepIn K (.ref f_facts_of_value) = true)
  (a_facts_of_value : PySem.W.nsIn K mainGlobals "facts_of_value" = some (some (.ref f_facts_of_value)))
  (l_facts_of_row : K.lookup f_facts_of_row = some ⟨oc_facts_of_row, od_facts_of_row, .func (PySem.W.fnOf "facts_of_row" "facts_of_row" (defArgs (topS 20)) (defBody (topS 20)) (defScope (topS 20)) .none kV_facts_of_row dc_facts_of_row pm_facts_of_row an_facts_of_row cd_facts_of_row ct_facts_of_row), sl_facts_of_row⟩) (c_facts_of_row : PySem.W.codeIn K cd_facts_of_row "facts_of_row" = true) (k_facts_of_row : PySem.W.keepIn K (.ref f_facts_of_row) = true)
  (a_facts_of_row : PySem.W.nsIn K mainGlobals "facts_of_row" = some (some (.ref f_facts_of_row)))
  (l_nexts : K.lookup f_nexts = some ⟨oc_nexts, od_nexts, .func (PySem.W.fnOf "nexts" "nexts" (defArgs (topS 21)) (defBody (topS 21)) (defScope (topS 21)) .none kV_nexts dc_nexts pm_nexts an_nexts cd_nexts ct_nexts), sl_nexts⟩) (c_nexts : PySem.W.codeIn K cd_nexts "nexts" = true) (k_nexts : PySem.W.keepIn K (.ref f_nexts) = true)
  (a_nexts : PySem.W.nsIn K mainGlobals "nexts" = some (some (.ref f_nexts)))
  (l_tables : K.lookup f_tables = some ⟨oc_tables, od_tables, .func (PySem.W.fnOf "tables" "tables" (defArgs (topS 22)) (defBody (topS 22)) (defScope (topS 22)) .none kV_tables dc_tables pm_tables an_tables cd_tables ct_tables), sl_tables⟩) (c_tables : PySem.W.codeIn K cd_tables "tables" = true) (k_tables : PySem.W.keepIn K (.ref f_tables) = true)
  (a_tables : PySem.W.nsIn K mainGlobals "tables" = some (some (.ref f_tables)))
  (l__law_deck : K.lookup f__law_deck = some ⟨oc__law_deck, od__law_deck, .func (PySem.W.fnOf "_law_deck" "_law_deck" (defArgs (topS 24)) (defBody (topS 24)) (defScope (topS 24)) .none kV__law_deck dc__law_deck pm__law_deck an__law_deck cd__law_deck ct__law_deck), sl__law_deck⟩) (c__law_deck : PySem.W.codeIn K cd__law_deck "_law_deck" = true) (k__law_deck : PySem.W.keepIn K (.ref f__law_deck) = true)
  (a__law_deck : PySem.W.nsIn K mainGlobals "_law_deck" = some (some (.ref f__law_deck)))
  (l__law_take : K.lookup f__law_take = some ⟨oc__law_take, od__law_take, .func (PySem.W.fnOf "_law_take" "_law_take" (defArgs (topS 25)) (defBody (topS 25)) (defScope (topS 25)) .none kV__law_take dc__law_take pm__law_take an__law_take cd__law_take ct__law_take), sl__law_take⟩) (c__law_take : PySem.W.codeIn K cd__law_take "_law_take" = true) (k__law_take : PySem.W.keepIn K (.ref f__law_take) = true)
  (a__law_take : PySem.W.nsIn K mainGlobals "_law_take" = some (some (.ref f__law_take)))
  (l__law_size : K.lookup f__law_size = some ⟨oc__law_size, od__law_size, .func (PySem.W.fnOf "_law_size" "_law_size" (defArgs (topS 26)) (defBody (topS 26)) (defScope (topS 26)) .none kV__law_size dc__law_size pm__law_size an__law_size cd__law_size ct__law_size), sl__law_size⟩) (c__law_size : PySem.W.codeIn K cd__law_size "_law_size" = true) (k__law_size : PySem.W.keepIn K (.ref f__law_size) = true)
  (a__law_size : PySem.W.nsIn K mainGlobals "_law_size" = some (some (.ref f__law_size)))
  (l__law_block : K.lookup f__law_block = some ⟨oc__law_block, od__law_block, .func (PySem.W.fnOf "_law_block" "_law_block" (defArgs (topS 27)) (defBody (topS 27)) (defScope (topS 27)) .none kV__law_block dc__law_block pm__law_block an__law_block cd__law_block ct__law_block), sl__law_block⟩) (c__law_block : PySem.W.codeIn K cd__law_block "_law_block" = true) (k__law_block : PySem.W.keepIn K (.ref f__law_block) = true)
  (a__law_block : PySem.W.nsIn K mainGlobals "_law_block" = some (some (.ref f__law_block)))
  (l__law_back : K.lookup f__law_back = some ⟨oc__law_back, od__law_back, .func (PySem.W.fnOf "_law_back" "_law_back" (defArgs (topS 28)) (defBody (topS 28)) (defScope (topS 28)) .none kV__law_back dc__law_back pm__law_back an__law_back cd__law_back ct__law_back), sl__law_back⟩) (c__law_back : PySem.W.codeIn K cd__law_back "_law_back" = true) (k__law_back : PySem.W.keepIn K (.ref f__law_back) = true)
  (a__law_back : PySem.W.nsIn K mainGlobals "_law_back" = some (some (.ref f__law_back)))
  (l_law : K.lookup f_law = some ⟨oc_law, od_law, .func (PySem.W.fnOf "law" "law" (defArgs (topS 29)) (defBody (topS 29)) (defScope (topS 29)) .none kV_law dc_law pm_law an_law cd_law ct_law), sl_law⟩) (c_law : PySem.W.codeIn K cd_law "law" = true) (k_law : PySem.W.keepIn K (.ref f_law) = true)
  (a_law : PySem.W.nsIn K mainGlobals "law" = some (some (.ref f_law)))
  (a_Program : PySem.W.nsIn K mainGlobals "Program" = some (some (.ref C_Program))) (pg_Program : PySem.W.plainGet K C_Program Str.empty = true) (hd_Program : PySem.W.hasDictIn K C_Program = true) (po_Program : PySem.W.plainOver K C_Program = true) (sa_Program : PySem.W.findIn K (.ref C_Program) "__setattr__" = some (some (.builtin "object.__setattr__"))) (mk_Program : PySem.W.makesIn K C_Program = true) (kc_Program : PySem.W.keepIn K (.ref C_Program) = true)
  (at_Program_init : PySem.W.findIn K (.ref C_Program) "__init__" = some (some (.ref f_Program_init))) (i_Program_init : PySem.W.isFn K (.ref f_Program_init) = true)
  (at_Program_definitions : PySem.W.findIn K (.ref C_Program) "definitions" = some (some (.ref f_Program_definitions))) (i_Program_definitions : PySem.W.isFn K (.ref f_Program_definitions) = true)
  (na_definitions_kept : PySem.W.findIn K (.ref C_Program) "definitions_kept" = some none)
  (l_einit : K.lookup f_einit = some ⟨oc_einit, od_einit, .func (PySem.W.fnOf "__init__" "AskError.__init__" (defArgs (inClass (topS 1) 0)) (defBody (inClass (topS 1) 0)) (defScope (inClass (topS 1) 0)) .none kV_einit dc_einit pm_einit an_einit cd_einit ct_einit), sl_einit⟩) (c_einit : PySem.W.codeIn K cd_einit "AskError.__init__" = true) (k_einit : PySem.W.keepIn K (.ref f_einit) = true) (ti_einit : PySem.W.typeIn K (.ref f_einit) = some (.type "function"))
  (cg : PySem.W.specialIn K (.builtin "object.__class__") "__get__" = some (some (.builtin "getset_descriptor.__get__"))) (cta : PySem.W.takesIn K (.builtin "object.__class__") = some true)
  (a_NoProgram : PySem.W.nsIn K mainGlobals "NoProgram" = some (some (.ref E_NoProgram))) (xl_NoProgram : K.lookup E_NoProgram = some (PySem.excClassObj nm_NoProgram qn_NoProgram E_NoProgram N_NoProgram bs_NoProgram bm_NoProgram true sn_NoProgram sub_NoProgram ab_NoProgram col_NoProgram dd_NoProgram m0_NoProgram m1_NoProgram m2_NoProgram m3_NoProgram m5_NoProgram "ValueError.__new__")) (rv_NoProgram : PySem.HandSPX.refsVE bm_NoProgram = true)
  (sa_NoProgram : PySem.W.findIn K (.ref E_NoProgram) "__setattr__" = some (some (.builtin "object.__setattr__"))) (be_NoProgram : PySem.W.subIn K (.ref E_NoProgram) (.type "BaseException") = some true) (ty_NoProgram : PySem.W.typeIn K (.ref E_NoProgram) = some (.type "type")) (kp_NoProgram : PySem.W.keepIn K (.ref E_NoProgram) = true) (at_xNoProgram : PySem.W.findIn K (.ref E_NoProgram) "__init__" = some (some (.ref f_einit))) (wn_NoProgram : PySem.W.findIn K (.ref E_NoProgram) "what" = some none) (hx_NoProgram : PySem.W.hasDictIn K E_NoProgram = true)
  (a_AskError : PySem.W.nsIn K mainGlobals "AskError" = some (some (.ref E_AskError))) (xl_AskError : K.lookup E_AskError = some (PySem.excClassObj nm_AskError qn_AskError E_AskError N_AskError bs_AskError bm_AskError true sn_AskError sub_AskError ab_AskError col_AskError dd_AskError m0_AskError m1_AskError m2_AskError m3_AskError m5_AskError "ValueError.__new__")) (rv_AskError : PySem.HandSPX.refsVE bm_AskError = true)
  (sa_AskError : PySem.W.findIn K (.ref E_AskError) "__setattr__" = some (some (.builtin "object.__setattr__"))) (be_AskError : PySem.W.subIn K (.ref E_AskError) (.type "BaseException") = some true) (ty_AskError : PySem.W.typeIn K (.ref E_AskError) = some (.type "type")) (kp_AskError : PySem.W.keepIn K (.ref E_AskError) = true) (at_xAskError : PySem.W.findIn K (.ref E_AskError) "__init__" = some (some (.ref f_einit))) (wn_AskError : PySem.W.findIn K (.ref E_AskError) "what" = some none) (hx_AskError : PySem.W.hasDictIn K E_AskError = true)
  (c_LETTERS : PySem.W.nsIn K mainGlobals "LETTERS" = some (some (.str "abcdefghijklmnopqrstuvwxyz" k_LETTERS)))
  (c_MOST_LETTERS : PySem.W.nsIn K mainGlobals "MOST_LETTERS" = some (some (.int 8 k_MOST_LETTERS)))
  (c_MAIN : PySem.W.nsIn K mainGlobals "MAIN" = some (some (.str "main" k_MAIN)))
  (a_NAMED : PySem.W.nsIn K mainGlobals "NAMED" = some (some (.ref D_NAMED))) (l_NAMED : K.lookup D_NAMED = some ⟨.type "dict", none, .dict en_NAMED ep_NAMED, #[]⟩) (zl_NAMED : PySem.W.KeysLit w.params en_NAMED.toList)
  (ze_NAMED_0 : PySem.W.nsIn K D_NAMED "copy" = some (some (.str "copies" tk_NAMED_0)))
  (ze_NAMED_1 : PySem.W.nsIn K D_NAMED "add" = some (some (.str "adds" tk_NAMED_1)))
  (ze_NAMED_2 : PySem.W.nsIn K D_NAMED "clean" = some (some (.str "cleans" tk_NAMED_2)))
  (ze_NAMED_3 : PySem.W.nsIn K D_NAMED "send" = some (some (.str "sends" tk_NAMED_3)))
  (ze_NAMED_4 : PySem.W.nsIn K D_NAMED "give" = some (some (.str "gives" tk_NAMED_4)))
  (ze_NAMED_5 : PySem.W.nsIn K D_NAMED "if" = some (some (.str "asks" tk_NAMED_5)))
  (n_abs : PySem.W.nsIn K mainGlobals "abs" = some none)
  (n_all : PySem.W.nsIn K mainGlobals "all" = some none)
  (n_enumerate : PySem.W.nsIn K mainGlobals "enumerate" = some none)
  (n_len : PySem.W.nsIn K mainGlobals "len" = some none)
  (n_list : PySem.W.nsIn K mainGlobals "list" = some none)
  (n_min : PySem.W.nsIn K mainGlobals "min" = some none)
  (n_range : PySem.W.nsIn K mainGlobals "range" = some none)
  (n_set : PySem.W.nsIn K mainGlobals "set" = some none)
  (n_sorted : PySem.W.nsIn K mainGlobals "sorted" = some none)
  (n_tuple : PySem.W.nsIn K mainGlobals "tuple" = some none) : Tx K mg w :=
  { t_is_name := ⟨⟨f_is_name, _, fun_mk (st := topS 8) l_is_name c_is_name k_is_name, (fun_mk (st := topS 8) l_is_name c_is_name k_is_name).binds (fun _ _ _ _ _ _ us hl => match us, hl with | [_], _ => rfl)⟩, PySem.W.mg_of X G a_is_name⟩, t_each_row := ⟨⟨f_each_row, _, fun_mk (st := topS 9) l_each_row c_each_row k_each_row, (fun_mk (st := topS 9) l_each_row c_each_row k_each_row).binds (fun _ _ _ _ _ _ us hl => match us, hl with | [_], _ => rfl)⟩, PySem.W.mg_of X G a_each_row⟩, t_numbered := ⟨⟨f_numbered, _, fun_mk (st := topS 10) l_numbered c_numbered k_numbered, (fun_mk (st := topS 10) l_numbered c_numbered k_numbered).binds (fun _ _ _ _ _ _ us hl => match us, hl with | [_], _ => rfl)⟩, PySem.W.mg_of X G a_numbered⟩, t_size_of := ⟨⟨f_size_of, _, fun_mk (st := topS 11) l_size_of c_size_of k_size_of, (fun_mk (st := topS 11) l_size_of c_size_of k_size_of).binds (fun _ _ _ _ _ _ us hl => match us, hl with | [_], _ => rfl)⟩, PySem.W.mg_of X G a_size_of⟩, t_names_asked := ⟨⟨f_names_asked, _, fun_mk (st := topS 12) l_names_asked c_names_asked k_names_asked, (fun_mk (st := topS 12) l_names_asked c_names_asked k_names_asked).binds (fun _ _ _ _ _ _ us hl => match us, hl with | [_], _ => rfl)⟩, PySem.W.mg_of X G a_names_asked⟩, t_call_of := ⟨⟨f_call_of, _, fun_mk (st := topS 13) l_call_of c_call_of k_call_of, (fun_mk (st := topS 13) l_call_of c_call_of k_call_of).binds (fun _ _ _ _ _ _ us hl => match us, hl with | [_], _ => rfl)⟩, PySem.W.mg_of X G a_call_of⟩, t_names_in := ⟨⟨f_names_in, _, fun_mk (st := topS 14) l_names_in c_names_in k_names_in, (fun_mk (st := topS 14) l_names_in c_names_in k_names_in).binds (fun _ _ _ _ _ _ us hl => match us, hl with | [_], _ => rfl)⟩, PySem.W.mg_of X G a_names_in⟩, t_is_sound := ⟨⟨f_is_sound, _, fun_mk (st := topS 15) l_is_sound c_is_sound k_is_sound, (fun_mk (st := topS 15) l_is_sound c_is_sound k_is_sound).binds (fun _ _ _ _ _ _ us hl => match us, hl with | [_, _], _ => rfl)⟩, PySem.W.mg_of X G a_is_sound⟩, t_Program_init := ⟨f_Program_init, _, fun_mk (st := inClass (topS 16) 0) l_Program_init c_Program_init k_Program_init, (fun_mk (st := inClass (topS 16) 0) l_Program_init c_Program_init k_Program_init).binds (fun _ _ _ _ _ _ us hl => match us, hl with | [_, _], _ => rfl)⟩, t_Program_definitions := ⟨f_Program_definitions, _, fun_mk (st := inClass (topS 16) 1) l_Program_definitions c_Program_definitions k_Program_definitions, (fun_mk (st := inClass (topS 16) 1) l_Program_definitions c_Program_definitions k_Program_definitions).binds (fun _ _ _ _ _ _ us hl => match us, hl with | [_], _ => rfl)⟩, t_facts_of_value := ⟨⟨f_facts_of_value, _, fun_mk (st := topS 19) l_facts_of_value c_facts_of_value k_facts_of_value, (fun_mk (st := topS 19) l_facts_of_value c_facts_of_value k_facts_of_value).binds (fun _ _ _ _ _ _ us hl => match us, hl with | [_, _, _], _ => rfl)⟩, PySem.W.mg_of X G a_facts_of_value⟩, t_facts_of_row := ⟨⟨f_facts_of_row, _, fun_mk (st := topS 20) l_facts_of_row c_facts_of_row k_facts_of_row, (fun_mk (st := topS 20) l_facts_of_row c_facts_of_row k_facts_of_row).binds (fun _ _ _ _ _ _ us hl => match us, hl with | [_, _, _], _ => rfl)⟩, PySem.W.mg_of X G a_facts_of_row⟩, t_nexts := ⟨⟨f_nexts, _, fun_mk (st := topS 21) l_nexts c_nexts k_nexts, (fun_mk (st := topS 21) l_nexts c_nexts k_nexts).binds (fun _ _ _ _ _ _ us hl => match us, hl with | [_, _, _], _ => rfl)⟩, PySem.W.mg_of X G a_nexts⟩, t_tables := ⟨⟨f_tables, _, fun_mk (st := topS 22) l_tables c_tables k_tables, (fun_mk (st := topS 22) l_tables c_tables k_tables).binds (fun _ _ _ _ _ _ us hl => match us, hl with | [_], _ => rfl)⟩, PySem.W.mg_of X G a_tables⟩, t__law_deck := ⟨⟨f__law_deck, _, fun_mk (st := topS 24) l__law_deck c__law_deck k__law_deck, (fun_mk (st := topS 24) l__law_deck c__law_deck k__law_deck).binds (fun _ _ _ _ _ _ us hl => match us, hl with | [_], _ => rfl)⟩, PySem.W.mg_of X G a__law_deck⟩, t__law_take := ⟨⟨f__law_take, _, fun_mk (st := topS 25) l__law_take c__law_take k__law_take, (fun_mk (st := topS 25) l__law_take c__law_take k__law_take).binds (fun _ _ _ _ _ _ us hl => match us, hl with | [_, _], _ => rfl)⟩, PySem.W.mg_of X G a__law_take⟩, t__law_size := ⟨⟨f__law_size, _, fun_mk (st := topS 26) l__law_size c__law_size k__law_size, (fun_mk (st := topS 26) l__law_size c__law_size k__law_size).binds (fun _ _ _ _ _ _ us hl => match us, hl with | [_], _ => rfl)⟩, PySem.W.mg_of X G a__law_size⟩, t__law_block := ⟨⟨f__law_block, _, fun_mk (st := topS 27) l__law_block c__law_block k__law_block, (fun_mk (st := topS 27) l__law_block c__law_block k__law_block).binds (fun _ _ _ _ _ _ us hl => match us, hl with | [_, _, _], _ => rfl)⟩, PySem.W.mg_of X G a__law_block⟩, t__law_back := ⟨⟨f__law_back, _, fun_mk (st := topS 28) l__law_back c__law_back k__law_back, (fun_mk (st := topS 28) l__law_back c__law_back k__law_back).binds (fun _ _ _ _ _ _ us hl => match us, hl with | [_, _, _, _], _ => rfl)⟩, PySem.W.mg_of X G a__law_back⟩, t_law := ⟨⟨f_law, _, fun_mk (st := topS 29) l_law c_law k_law, (fun_mk (st := topS 29) l_law c_law k_law).binds (fun _ _ _ _ _ _ us hl => match us, hl with | [_], _ => rfl)⟩, PySem.W.mg_of X G a_law⟩, a_Program := C_Program, g_Program := PySem.W.mg_of X G a_Program, cl_Program := ⟨pg_Program, hd_Program, po_Program, sa_Program⟩, mk_Program := ⟨mk_Program, at_Program_init, i_Program_init, kc_Program⟩, m_Program_definitions := ⟨at_Program_definitions, i_Program_definitions, k_Program_definitions⟩, na_definitions_kept := na_definitions_kept, f_einit := f_einit, d_einit := _, t_einit := fun_mk (st := inClass (topS 1) 0) l_einit c_einit k_einit, b_einit := (fun_mk (st := inClass (topS 1) 0) l_einit c_einit k_einit).binds (fun _ _ _ _ _ _ us hl => match us, hl with | [_, _], _ => rfl), i_init := ti_einit, p_einit := (⟨5, 8, 5, 12⟩, ⟨5, 8, 5, 17⟩, ⟨5, 20, 5, 24⟩, ⟨5, 8, 5, 24⟩), sc_einit := sc_einit, bo_einit := bo_einit, E_NoProgram := E_NoProgram, x_NoProgram := ⟨PySem.W.mg_of X G a_NoProgram, ⟨⟨_, _, _, _, _, _, _, _, _, _, _, _, _, _, _, xl_NoProgram, rv_NoProgram⟩, sa_NoProgram, be_NoProgram, ty_NoProgram, kp_NoProgram⟩, at_xNoProgram, wn_NoProgram⟩, E_AskError := E_AskError, x_AskError := ⟨PySem.W.mg_of X G a_AskError, ⟨⟨_, _, _, _, _, _, _, _, _, _, _, _, _, _, _, xl_AskError, rv_AskError⟩, sa_AskError, be_AskError, ty_AskError, kp_AskError⟩, at_xAskError, wn_AskError⟩, k_LETTERS := k_LETTERS, c_LETTERS := PySem.W.mg_of X G c_LETTERS, k_MOST_LETTERS := k_MOST_LETTERS, c_MOST_LETTERS := PySem.W.mg_of X G c_MOST_LETTERS, k_MAIN := k_MAIN, c_MAIN := PySem.W.mg_of X G c_MAIN, kd_NAMED := ⟨_, PySem.W.mg_of X G a_NAMED, (kde_cons (v' := .str "copies") ⟨_, _, _, l_NAMED, zl_NAMED, ze_NAMED_0, ⟨_, rfl⟩⟩ (fun _ _ => rfl) (kde_cons (v' := .str "adds") ⟨_, _, _, l_NAMED, zl_NAMED, ze_NAMED_1, ⟨_, rfl⟩⟩ (fun _ _ => rfl) (kde_cons (v' := .str "cleans") ⟨_, _, _, l_NAMED, zl_NAMED, ze_NAMED_2, ⟨_, rfl⟩⟩ (fun _ _ => rfl) (kde_cons (v' := .str "sends") ⟨_, _, _, l_NAMED, zl_NAMED, ze_NAMED_3, ⟨_, rfl⟩⟩ (fun _ _ => rfl) (kde_cons (v' := .str "gives") ⟨_, _, _, l_NAMED, zl_NAMED, ze_NAMED_4, ⟨_, rfl⟩⟩ (fun _ _ => rfl) (kde_cons (v' := .str "asks") ⟨_, _, _, l_NAMED, zl_NAMED, ze_NAMED_5, ⟨_, rfl⟩⟩ (fun _ _ => rfl) kde_nil))))))⟩, n_abs := PySem.W.mg_none_of X G n_abs, n_all := PySem.W.mg_none_of X G n_all, n_enumerate := PySem.W.mg_none_of X G n_enumerate, n_len := PySem.W.mg_none_of X G n_len, n_list := PySem.W.mg_none_of X G n_list, n_min := PySem.W.mg_none_of X G n_min, n_range := PySem.W.mg_none_of X G n_range, n_set := PySem.W.mg_none_of X G n_set, n_sorted := PySem.W.mg_none_of X G n_sorted, n_tuple := PySem.W.mg_none_of X G n_tuple }
theorem law_facts (hmain : LawMain 63 m_law) {K : PySem.W.Frag} {h : Heap} {mg : Str → Option Value} {l : PySem.W.OpenLaw} {w : World} {fa : Addr} (X : K.In h) (G : h.Ns mainGlobals mg) (hfa : mg "law" = some (.ref fa)) {f_is_name : Addr} {oc_is_name kV_is_name dc_is_name pm_is_name cd_is_name ct_is_name : Value} {od_is_name an_is_name : Option Addr} {sl_is_name : Array (Option Value)} {f_each_row : Addr} {oc_each_row kV_each_row dc_each_row pm_each_row cd_each_row ct_each_row : Value} {od_each_row an_each_row : Option Addr} {sl_each_row : Array (Option Value)} {f_numbered : Addr} {oc_numbered kV_numbered dc_numbered pm_numbered cd_numbered ct_numbered : Value} {od_numbered an_numbered : Option Addr} {sl_numbered : Array (Option Value)} {f_size_of : Addr} {oc_size_of kV_size_of dc_size_of pm_size_of cd_size_of ct_size_of : Value} {od_size_of an_size_of : Option Addr} {sl_size_of : Array (Option Value)} {f_names_asked : Addr} {oc_names_asked kV_names_asked dc_names_asked pm_names_asked cd_names_asked ct_names_asked : Value} {od_names_asked an_names_asked : Option Addr} {sl_names_asked : Array (Option Value)} {f_call_of : Addr} {oc_call_of kV_call_of dc_call_of pm_call_of cd_call_of ct_call_of : Value} {od_call_of an_call_of : Option Addr} {sl_call_of : Array (Option Value)} {f_names_in : Addr} {oc_names_in kV_names_in dc_names_in pm_names_in cd_names_in ct_names_in : Value} {od_names_in an_names_in : Option Addr} {sl_names_in : Array (Option Value)} {f_is_sound : Addr} {oc_is_sound kV_is_sound dc_is_sound pm_is_sound cd_is_sound ct_is_sound : Value} {od_is_sound an_is_sound : Option Addr} {sl_is_sound : Array (Option Value)} {f_Program_init : Addr} {oc_Program_init kV_Program_init dc_Program_init pm_Program_init cd_Program_init ct_Program_init : Value} {od_Program_init an_Program_init : Option Addr} {sl_Program_init : Array (Option Value)} {f_Program_definitions : Addr} {oc_Program_definitions kV_Program_definitions dc_Program_definitions pm_Program_definitions cd_Program_definitions ct_Program_definitions : Value} {od_Program_definitions an_Program_definitions : Option Addr} {sl_Program_definitions : Array (Option Value)} {f_facts_of_value : Addr} {oc_facts_of_value kV_facts_of_value dc_facts_of_value pm_facts_of_value cd_facts_of_value ct_facts_of_value : Value} {od_facts_of_value an_facts_of_value : Option Addr} {sl_facts_of_value : Array (Option Value)} {f_facts_of_row : Addr} {oc_facts_of_row kV_facts_of_row dc_facts_of_row pm_facts_of_row cd_facts_of_row ct_facts_of_row : Value} {od_facts_of_row an_facts_of_row : Option Addr} {sl_facts_of_row : Array (Option Value)} {f_nexts : Addr} {oc_nexts kV_nexts dc_nexts pm_nexts cd_nexts ct_nexts : Value} {od_nexts an_nexts : Option Addr} {sl_nexts : Array (Option Value)} {f_tables : Addr} {oc_tables kV_tables dc_tables pm_tables cd_tables ct_tables : Value} {od_tables an_tables : Option Addr} {sl_tables : Array (Option Value)} {f__law_deck : Addr} {oc__law_deck kV__law_deck dc__law_deck pm__law_deck cd__law_deck ct__law_deck : Value} {od__law_deck an__law_deck : Option Addr} {sl__law_deck : Array (Option Value)} {f__law_take : Addr} {oc__law_take kV__law_take dc__law_take pm__law_take cd__law_take ct__law_take : Value} {od__law_take an__law_take : Option Addr} {sl__law_take : Array (Option Value)} {f__law_size : Addr} {oc__law_size kV__law_size dc__law_size pm__law_size cd__law_size ct__law_size : Value} {od__law_size an__law_size : Option Addr} {sl__law_size : Array (Option Value)} {f__law_block : Addr} {oc__law_block kV__law_block dc__law_block pm__law_block cd__law_block ct__law_block : Value} {od__law_block an__law_block : Option Addr} {sl__law_block : Array (Option Value)} {f__law_back : Addr} {oc__law_back kV__law_back dc__law_back pm__law_back cd__law_back ct__law_back : Value} {od__law_back an__law_back : Option Addr} {sl__law_back : Array (Option Value)} {f_law : Addr} {oc_law kV_law dc_law pm_law cd_law ct_law : Value} {od_law an_law : Option Addr} {sl_law : Array (Option Value)} {C_Program : Addr} {f_einit : Addr} {oc_einit kV_einit dc_einit pm_einit cd_einit ct_einit : Value} {od_einit an_einit : Option Addr} {sl_einit : Array (Option Value)} {E_NoProgram N_NoProgram : Addr} {nm_NoProgram qn_NoProgram : Str} {bs_NoProgram bm_NoProgram sub_NoProgram : List Value} {sn_NoProgram : List Str} {ab_NoProgram : Bool} {col_NoProgram : Option Bool} {dd_NoProgram : Option Addr} {m0_NoProgram m1_NoProgram m2_NoProgram m3_NoProgram m5_NoProgram : Option Value} {E_AskError N_AskError : Addr} {nm_AskError qn_AskError : Str} {bs_AskError bm_AskError sub_AskError : List Value} {sn_AskError : List Str} {ab_AskError : Bool} {col_AskError : Option Bool} {dd_AskError : Option Addr} {m0_AskError m1_AskError m2_AskError m3_AskError m5_AskError : Option Value} {k_LETTERS : Tok} {k_MOST_LETTERS : Tok} {k_MAIN : Tok} {D_NAMED : Addr} {en_NAMED : Array DictEntry} {ep_NAMED : Nat} {tk_NAMED_0 : Tok} {tk_NAMED_1 : Tok} {tk_NAMED_2 : Tok} {tk_NAMED_3 : Tok} {tk_NAMED_4 : Tok} {tk_NAMED_5 : Tok}
  (l_is_name : K.lookup f_is_name = some ⟨oc_is_name, od_is_name, .func (PySem.W.fnOf "is_name" "is_name" (defArgs (topS 8)) (defBody (topS 8)) (defScope (topS 8)) .none kV_is_name dc_is_name pm_is_name an_is_name cd_is_name ct_is_name), sl_is_name⟩) (c_is_name : PySem.W.codeIn K cd_is_name "is_name" = true) (k_is_name : PySem.W.keepIn K (.ref f_is_name) = true)
  (a_is_name : PySem.W.nsIn K mainGlobals "is_name" = some (some (.ref f_is_name)))
  (l_each_row : K.lookup f_each_row = some ⟨oc_each_row, od_each_row, .func (PySem.W.fnOf "each_row" "each_row" (defArgs (topS 9)) (defBody (topS 9)) (defScope (topS 9)) .none kV_each_row dc_each_row pm_each_row an_each_row cd_each_row ct_each_row), sl_each_row⟩) (c_each_row : PySem.W.codeIn K cd_each_row "each_row" = true) (k_each_row : PySem.W.keepIn K (.ref f_each_row) = true)
  (a_each_row : PySem.W.nsIn K mainGlobals "each_row" = some (some (.ref f_each_row)))
  (l_numbered : K.lookup f_numbered = some ⟨oc_numbered, od_numbered, .func (PySem.W.fnOf "numbered" "numbered" (defArgs (topS 10)) (defBody (topS 10)) (defScope (topS 10)) .none kV_numbered dc_numbered pm_numbered an_numbered cd_numbered ct_numbered), sl_numbered⟩) (c_numbered : PySem.W.codeIn K cd_numbered "numbered" = true) (k_numbered : PySem.W.keepIn K (.ref f_numbered) = true)
  (a_numbered : PySem.W.nsIn K mainGlobals "numbered" = some (some (.ref f_numbered)))
  (l_size_of : K.lookup f_size_of = some ⟨oc_size_of, od_size_of, .func (PySem.W.fnOf "size_of" "size_of" (defArgs (topS 11)) (defBody (topS 11)) (defScope (topS 11)) .none kV_size_of dc_size_of pm_size_of an_size_of cd_size_of ct_size_of), sl_size_of⟩) (c_size_of : PySem.W.codeIn K cd_size_of "size_of" = true) (k_size_of : PySem.W.keepIn K (.ref f_size_of) = true)
  (a_size_of : PySem.W.nsIn K mainGlobals "size_of" = some (some (.ref f_size_of)))
  (l_names_asked : K.lookup f_names_asked = some ⟨oc_names_asked, od_names_asked, .func (PySem.W.fnOf "names_asked" "names_asked" (defArgs (topS 12)) (defBody (topS 12)) (defScope (topS 12)) .none kV_names_asked dc_names_asked pm_names_asked an_names_asked cd_names_asked ct_names_asked), sl_names_asked⟩) (c_names_asked : PySem.W.codeIn K cd_names_asked "names_asked" = true) (k_names_asked : PySem.W.keepIn K (.ref f_names_asked) = true)
  (a_names_asked : PySem.W.nsIn K mainGlobals "names_asked" = some (some (.ref f_names_asked)))
  (l_call_of : K.lookup f_call_of = some ⟨oc_call_of, od_call_of, .func (PySem.W.fnOf "call_of" "call_of" (defArgs (topS 13)) (defBody (topS 13)) (defScope (topS 13)) .none kV_call_of dc_call_of pm_call_of an_call_of cd_call_of ct_call_of), sl_call_of⟩) (c_call_of : PySem.W.codeIn K cd_call_of "call_of" = true) (k_call_of : PySem.W.keepIn K (.ref f_call_of) = true)
  (a_call_of : PySem.W.nsIn K mainGlobals "call_of" = some (some (.ref f_call_of)))
  (l_names_in : K.lookup f_names_in = some ⟨oc_names_in, od_names_in, .func (PySem.W.fnOf "names_in" "names_in" (defArgs (topS 14)) (defBody (topS 14)) (defScope (topS 14)) .none kV_names_in dc_names_in pm_names_in an_names_in cd_names_in ct_names_in), sl_names_in⟩) (c_names_in : PySem.W.codeIn K cd_names_in "names_in" = true) (k_names_in : PySem.W.keepIn K (.ref f_names_in) = true)
  (a_names_in : PySem.W.nsIn K mainGlobals "names_in" = some (some (.ref f_names_in)))
  (l_is_sound : K.lookup f_is_sound = some ⟨oc_is_sound, od_is_sound, .func (PySem.W.fnOf "is_sound" "is_sound" (defArgs (topS 15)) (defBody (topS 15)) (defScope (topS 15)) .none kV_is_sound dc_is_sound pm_is_sound an_is_sound cd_is_sound ct_is_sound), sl_is_sound⟩) (c_is_sound : PySem.W.codeIn K cd_is_sound "is_sound" = true) (k_is_sound : PySem.W.keepIn K (.ref f_is_sound) = true)
  (a_is_sound : PySem.W.nsIn K mainGlobals "is_sound" = some (some (.ref f_is_sound)))
  (l_Program_init : K.lookup f_Program_init = some ⟨oc_Program_init, od_Program_init, .func (PySem.W.fnOf "__init__" "Program.__init__" (defArgs (inClass (topS 16) 0)) (defBody (inClass (topS 16) 0)) (defScope (inClass (topS 16) 0)) .none kV_Program_init dc_Program_init pm_Program_init an_Program_init cd_Program_init ct_Program_init), sl_Program_init⟩) (c_Program_init : PySem.W.codeIn K cd_Program_init "Program.__init__" = true) (k_Program_init : PySem.W.keepIn K (.ref f_Program_init) = true)
  (l_Program_definitions : K.lookup f_Program_definitions = some ⟨oc_Program_definitions, od_Program_definitions, .func (PySem.W.fnOf "definitions" "Program.definitions" (defArgs (inClass (topS 16) 1)) (defBody (inClass (topS 16) 1)) (defScope (inClass (topS 16) 1)) .none kV_Program_definitions dc_Program_definitions pm_Program_definitions an_Program_definitions cd_Program_definitions ct_Program_definitions), sl_Program_definitions⟩) (c_Program_definitions : PySem.W.codeIn K cd_Program_definitions "Program.definitions" = true) (k_Program_definitions : PySem.W.keepIn K (.ref f_Program_definitions) = true)
  (l_facts_of_value : K.lookup f_facts_of_value = some ⟨oc_facts_of_value, od_facts_of_value, .func (PySem.W.fnOf "facts_of_value" "facts_of_value" (defArgs (topS 19)) (defBody (topS 19)) (defScope (topS 19)) .none kV_facts_of_value dc_facts_of_value pm_facts_of_value an_facts_of_value cd_facts_of_value ct_facts_of_value), sl_facts_of_value⟩) (c_facts_of_value : PySem.W.codeIn K cd_facts_of_value "facts_of_value" = true) (k_facts_of_value : PySem.W.keepIn K (.ref f_facts_of_value) = true)
  (a_facts_of_value : PySem.W.nsIn K mainGlobals "facts_of_value" = some (some (.ref f_facts_of_value)))
  (l_facts_of_row : K.lookup f_facts_of_row = some ⟨oc_facts_of_row, od_facts_of_row, .func (PySem.W.fnOf "facts_of_row" "facts_of_row" (defArgs (topS 20)) (defBody (topS 20)) (defScope (topS 20)) .none kV_facts_of_row dc_facts_of_row pm_facts_of_row an_facts_of_row cd_facts_of_row ct_facts_of_row), sl_facts_of_row⟩) (c_facts_of_row : PySem.W.codeIn K cd_facts_of_row "facts_of_row" = true) (k_facts_of_row : PySem.W.keepIn K (.ref f_facts_of_row) = true)
  (a_facts_of_row : PySem.W.nsIn K mainGlobals "facts_of_row" = some (some (.ref f_facts_of_row)))
  (l_nexts : K.lookup f_nexts = some ⟨oc_nexts, od_nexts, .func (PySem.W.fnOf "nexts" "nexts" (defArgs (topS 21)) (defBody (topS 21)) (defScope (topS 21)) .none kV_nexts dc_nexts pm_nexts an_nexts cd_nexts ct_nexts), sl_nexts⟩) (c_nexts : PySem.W.codeIn K cd_nexts "nexts" = true) (k_nexts : PySem.W.keepIn K (.ref f_nexts) = true)
  (a_nexts : PySem.W.nsIn K mainGlobals "nexts" = some (some (.ref f_nexts)))
  (l_tables : K.lookup f_tables = some ⟨oc_tables, od_tables, .func (PySem.W.fnOf "tables" "tables" (defArgs (topS 22)) (defBody (topS 22)) (defScope (topS 22)) .none kV_tables dc_tables pm_tables an_tables cd_tables ct_tables), sl_tables⟩) (c_tables : PySem.W.codeIn K cd_tables "tables" = true) (k_tables : PySem.W.keepIn K (.ref f_tables) = true)
  (a_tables : PySem.W.nsIn K mainGlobals "tables" = some (some (.ref f_tables)))
  (l__law_deck : K.lookup f__law_deck = some ⟨oc__law_deck, od__law_deck, .func (PySem.W.fnOf "_law_deck" "_law_deck" (defArgs (topS 24)) (defBody (topS 24)) (defScope (topS 24)) .none kV__law_deck dc__law_deck pm__law_deck an__law_deck cd__law_deck ct__law_deck), sl__law_deck⟩) (c__law_deck : PySem.W.codeIn K cd__law_deck "_law_deck" = true) (k__law_deck : PySem.W.keepIn K (.ref f__law_deck) = true)
  (a__law_deck : PySem.W.nsIn K mainGlobals "_law_deck" = some (some (.ref f__law_deck)))
  (l__law_take : K.lookup f__law_take = some ⟨oc__law_take, od__law_take, .func (PySem.W.fnOf "_law_take" "_law_take" (defArgs (topS 25)) (defBody (topS 25)) (defScope (topS 25)) .none kV__law_take dc__law_take pm__law_take an__law_take cd__law_take ct__law_take), sl__law_take⟩) (c__law_take : PySem.W.codeIn K cd__law_take "_law_take" = true) (k__law_take : PySem.W.keepIn K (.ref f__law_take) = true)
  (a__law_take : PySem.W.nsIn K mainGlobals "_law_take" = some (some (.ref f__law_take)))
  (l__law_size : K.lookup f__law_size = some ⟨oc__law_size, od__law_size, .func (PySem.W.fnOf "_law_size" "_law_size" (defArgs (topS 26)) (defBody (topS 26)) (defScope (topS 26)) .none kV__law_size dc__law_size pm__law_size an__law_size cd__law_size ct__law_size), sl__law_size⟩) (c__law_size : PySem.W.codeIn K cd__law_size "_law_size" = true) (k__law_size : PySem.W.keepIn K (.ref f__law_size) = true)
  (a__law_size : PySem.W.nsIn K mainGlobals "_law_size" = some (some (.ref f__law_size)))
  (l__law_block : K.lookup f__law_block = some ⟨oc__law_block, od__law_block, .func (PySem.W.fnOf "_law_block" "_law_block" (defArgs (topS 27)) (defBody (topS 27)) (defScope (topS 27)) .none kV__law_block dc__law_block pm__law_block an__law_block cd__law_block ct__law_block), sl__law_block⟩) (c__law_block : PySem.W.codeIn K cd__law_block "_law_block" = true) (k__law_block : PySem.W.keepIn K (.ref f__law_block) = true)
  (a__law_block : PySem.W.nsIn K mainGlobals "_law_block" = some (some (.ref f__law_block)))
  (l__law_back : K.lookup f__law_back = some ⟨oc__law_back, od__law_back, .func (PySem.W.fnOf "_law_back" "_law_back" (defArgs (topS 28)) (defBody (topS 28)) (defScope (topS 28)) .none kV__law_back dc__law_back pm__law_back an__law_back cd__law_back ct__law_back), sl__law_back⟩) (c__law_back : PySem.W.codeIn K cd__law_back "_law_back" = true) (k__law_back : PySem.W.keepIn K (.ref f__law_back) = true)
  (a__law_back : PySem.W.nsIn K mainGlobals "_law_back" = some (some (.ref f__law_back)))
  (l_law : K.lookup f_law = some ⟨oc_law, od_law, .func (PySem.W.fnOf "law" "law" (defArgs (topS 29)) (defBody (topS 29)) (defScope (topS 29)) .none kV_law dc_law pm_law an_law cd_law ct_law), sl_law⟩) (c_law : PySem.W.codeIn K cd_law "law" = true) (k_law : PySem.W.keepIn K (.ref f_law) = true)
  (a_law : PySem.W.nsIn K mainGlobals "law" = some (some (.ref f_law)))
  (a_Program : PySem.W.nsIn K mainGlobals "Program" = some (some (.ref C_Program))) (pg_Program : PySem.W.plainGet K C_Program Str.empty = true) (hd_Program : PySem.W.hasDictIn K C_Program = true) (po_Program : PySem.W.plainOver K C_Program = true) (sa_Program : PySem.W.findIn K (.ref C_Program) "__setattr__" = some (some (.builtin "object.__setattr__"))) (mk_Program : PySem.W.makesIn K C_Program = true) (kc_Program : PySem.W.keepIn K (.ref C_Program) = true)
  (at_Program_init : PySem.W.findIn K (.ref C_Program) "__init__" = some (some (.ref f_Program_init))) (i_Program_init : PySem.W.isFn K (.ref f_Program_init) = true)
  (at_Program_definitions : PySem.W.findIn K (.ref C_Program) "definitions" = some (some (.ref f_Program_definitions))) (i_Program_definitions : PySem.W.isFn K (.ref f_Program_definitions) = true)
  (na_definitions_kept : PySem.W.findIn K (.ref C_Program) "definitions_kept" = some none)
  (l_einit : K.lookup f_einit = some ⟨oc_einit, od_einit, .func (PySem.W.fnOf "__init__" "AskError.__init__" (defArgs (inClass (topS 1) 0)) (defBody (inClass (topS 1) 0)) (defScope (inClass (topS 1) 0)) .none kV_einit dc_einit pm_einit an_einit cd_einit ct_einit), sl_einit⟩) (c_einit : PySem.W.codeIn K cd_einit "AskError.__init__" = true) (k_einit : PySem.W.keepIn K (.ref f_einit) = true) (ti_einit : PySem.W.typeIn K (.ref f_einit) = some (.type "function"))
  (cg : PySem.W.specialIn K (.builtin "object.__class__") "__get__" = some (some (.builtin "getset_descriptor.__get__"))) (cta : PySem.W.takesIn K (.builtin "object.__class__") = some true)
  (a_NoProgram : PySem.W.nsIn K mainGlobals "NoProgram" = some (some (.ref E_NoProgram))) (xl_NoProgram : K.lookup E_NoProgram = some (PySem.excClassObj nm_NoProgram qn_NoProgram E_NoProgram N_NoProgram bs_NoProgram bm_NoProgram true sn_NoProgram sub_NoProgram ab_NoProgram col_NoProgram dd_NoProgram m0_NoProgram m1_NoProgram m2_NoProgram m3_NoProgram m5_NoProgram "ValueError.__new__")) (rv_NoProgram : PySem.HandSPX.refsVE bm_NoProgram = true)
  (sa_NoProgram : PySem.W.findIn K (.ref E_NoProgram) "__setattr__" = some (some (.builtin "object.__setattr__"))) (be_NoProgram : PySem.W.subIn K (.ref E_NoProgram) (.type "BaseException") = some true) (ty_NoProgram : PySem.W.typeIn K (.ref E_NoProgram) = some (.type "type")) (kp_NoProgram : PySem.W.keepIn K (.ref E_NoProgram) = true) (at_xNoProgram : PySem.W.findIn K (.ref E_NoProgram) "__init__" = some (some (.ref f_einit))) (wn_NoProgram : PySem.W.findIn K (.ref E_NoProgram) "what" = some none) (hx_NoProgram : PySem.W.hasDictIn K E_NoProgram = true)
  (a_AskError : PySem.W.nsIn K mainGlobals "AskError" = some (some (.ref E_AskError))) (xl_AskError : K.lookup E_AskError = some (PySem.excClassObj nm_AskError qn_AskError E_AskError N_AskError bs_AskError bm_AskError true sn_AskError sub_AskError ab_AskError col_AskError dd_AskError m0_AskError m1_AskError m2_AskError m3_AskError m5_AskError "ValueError.__new__")) (rv_AskError : PySem.HandSPX.refsVE bm_AskError = true)
  (sa_AskError : PySem.W.findIn K (.ref E_AskError) "__setattr__" = some (some (.builtin "object.__setattr__"))) (be_AskError : PySem.W.subIn K (.ref E_AskError) (.type "BaseException") = some true) (ty_AskError : PySem.W.typeIn K (.ref E_AskError) = some (.type "type")) (kp_AskError : PySem.W.keepIn K (.ref E_AskError) = true) (at_xAskError : PySem.W.findIn K (.ref E_AskError) "__init__" = some (some (.ref f_einit))) (wn_AskError : PySem.W.findIn K (.ref E_AskError) "what" = some none) (hx_AskError : PySem.W.hasDictIn K E_AskError = true)
  (c_LETTERS : PySem.W.nsIn K mainGlobals "LETTERS" = some (some (.str "abcdefghijklmnopqrstuvwxyz" k_LETTERS)))
  (c_MOST_LETTERS : PySem.W.nsIn K mainGlobals "MOST_LETTERS" = some (some (.int 8 k_MOST_LETTERS)))
  (c_MAIN : PySem.W.nsIn K mainGlobals "MAIN" = some (some (.str "main" k_MAIN)))
  (a_NAMED : PySem.W.nsIn K mainGlobals "NAMED" = some (some (.ref D_NAMED))) (l_NAMED : K.lookup D_NAMED = some ⟨.type "dict", none, .dict en_NAMED ep_NAMED, #[]⟩) (zl_NAMED : PySem.W.KeysLit w.params en_NAMED.toList)
  (ze_NAMED_0 : PySem.W.nsIn K D_NAMED "copy" = some (some (.str "copies" tk_NAMED_0)))
  (ze_NAMED_1 : PySem.W.nsIn K D_NAMED "add" = some (some (.str "adds" tk_NAMED_1)))
  (ze_NAMED_2 : PySem.W.nsIn K D_NAMED "clean" = some (some (.str "cleans" tk_NAMED_2)))
  (ze_NAMED_3 : PySem.W.nsIn K D_NAMED "send" = some (some (.str "sends" tk_NAMED_3)))
  (ze_NAMED_4 : PySem.W.nsIn K D_NAMED "give" = some (some (.str "gives" tk_NAMED_4)))
  (ze_NAMED_5 : PySem.W.nsIn K D_NAMED "if" = some (some (.str "asks" tk_NAMED_5)))
  (n_abs : PySem.W.nsIn K mainGlobals "abs" = some none)
  (n_all : PySem.W.nsIn K mainGlobals "all" = some none)
  (n_enumerate : PySem.W.nsIn K mainGlobals "enumerate" = some none)
  (n_len : PySem.W.nsIn K mainGlobals "len" = some none)
  (n_list : PySem.W.nsIn K mainGlobals "list" = some none)
  (n_min : PySem.W.nsIn K mainGlobals "min" = some none)
  (n_range : PySem.W.nsIn K mainGlobals "range" = some none)
  (n_set : PySem.W.nsIn K mainGlobals "set" = some none)
  (n_sorted : PySem.W.nsIn K mainGlobals "sorted" = some none)
  (n_tuple : PySem.W.nsIn K mainGlobals "tuple" = some none) :
  ∃ fd : FuncData, (∀ (s : Shared) (u : Value), BindsTo s fd ⟨[u], []⟩ [("_law_script", u)]) ∧ ∀ base : Heap, K.In base → base.Ns mainGlobals mg → FnOk l.prog w K mg base (L2.CX l.prog w) 18 fa fd ["_law_script"] (spLaw K 63) := by
  have e := hfa.symm.trans (PySem.W.mg_of X G a_law)
  cases e
  exact ⟨_, fun s v => .of_eq rfl, fun base _ _ => fn_law hmain (ok_law (mkTx X G l_is_name c_is_name k_is_name a_is_name l_each_row c_each_row k_each_row a_each_row l_numbered c_numbered k_numbered a_numbered l_size_of c_size_of k_size_of a_size_of l_names_asked c_names_asked k_names_asked a_names_asked l_call_of c_call_of k_call_of a_call_of l_names_in c_names_in k_names_in a_names_in l_is_sound c_is_sound k_is_sound a_is_sound l_Program_init c_Program_init k_Program_init l_Program_definitions c_Program_definitions k_Program_definitions l_facts_of_value c_facts_of_value k_facts_of_value a_facts_of_value l_facts_of_row c_facts_of_row k_facts_of_row a_facts_of_row l_nexts c_nexts k_nexts a_nexts l_tables c_tables k_tables a_tables l__law_deck c__law_deck k__law_deck a__law_deck l__law_take c__law_take k__law_take a__law_take l__law_size c__law_size k__law_size a__law_size l__law_block c__law_block k__law_block a__law_block l__law_back c__law_back k__law_back a__law_back l_law c_law k_law a_law a_Program pg_Program hd_Program po_Program sa_Program mk_Program kc_Program at_Program_init i_Program_init at_Program_definitions i_Program_definitions na_definitions_kept l_einit c_einit k_einit ti_einit cg cta a_NoProgram xl_NoProgram rv_NoProgram sa_NoProgram be_NoProgram ty_NoProgram kp_NoProgram at_xNoProgram wn_NoProgram hx_NoProgram a_AskError xl_AskError rv_AskError sa_AskError be_AskError ty_AskError kp_AskError at_xAskError wn_AskError hx_AskError c_LETTERS c_MOST_LETTERS c_MAIN a_NAMED l_NAMED zl_NAMED ze_NAMED_0 ze_NAMED_1 ze_NAMED_2 ze_NAMED_3 ze_NAMED_4 ze_NAMED_5 n_abs n_all n_enumerate n_len n_list n_min n_range n_set n_sorted n_tuple))⟩
end K15
namespace K15
open PySem PySem.Spec PyProof.Rows L2 PL
theorem each_row_wp : ∀ (d : Nat) (rs : List Rw) (S : Sto) (P : PV → Sto → Prop) (R : Str → PV → Sto → Prop), Rw.deps rs < d → (Rw.eachs rs).length ≤ 1000 →
    (∀ n S', S'[n]? = some (.lst (Rw.pvs (Rw.eachs rs))) → Keep [] S S' → S.length ≤ n → P (.loc n) S') → wp (m_each_row d [.tup (Rw.pvs rs)] S) P R
  | 0, _, _, _, _, h, _, _ => by omega
  | d + 1, rs, S, P, R, hd, hl, h => by
    unfold m_each_row
    rw [callS_wp]
    simp [startE, -e_newK, -addP_loc, -e_lstO, -listP_ap]
    refine lst_wp (by simp) ?_
    intro n S1 e1 k1 hn
    simp [-e_newK, -addP_loc, -e_lstO, -listP_ap]
    rw [pvs_map]
    refine forM_wp Rw.pv (fun ds τ S' => ∃ (x : Option PV), τ = [some (.tup (rs.map Rw.pv)), some (.loc n), x] ∧ S'[n]? = some (.lst (Rw.pvs (Rw.eachs ds))) ∧ Keep [n] S1 S')
      ⟨none, rfl, e1, .refl⟩ ?_ ?_
    · rintro ds r rs' τ S2 J hrs ⟨x, rfl, e2, k2⟩ hJ
      have lt2 := lt_of_get e2
      have hlen : (Rw.pvs (Rw.eachs ds)).length = (Rw.eachs ds).length := by rw [pvs_map]; simp
      have hle : (Rw.eachs ds).length + r.each.length ≤ 1000 := by
        rw [hrs, eachs_app] at hl
        simp [Rw.eachs] at hl
        omega
      have hrp := Rw.each_pos r
      have hdp : r.dep < d + 1 := by
        rw [hrs, deps_app] at hd
        simp [Rw.deps] at hd
        omega
      have ea : ∀ o, Rw.eachs (ds ++ [o]) = Rw.eachs ds ++ o.each := by intro o; rw [eachs_app]; simp [Rw.eachs]
      refine ⟨by simp, _, rfl, ?_⟩
      simp [e2, hlen, -e_newK, -addP_loc, -e_lstO, -listP_ap]
      refine ⟨by omega, ?_⟩
      have e3 : (S2.set n (.lst (Rw.pvs (Rw.eachs ds) ++ [r.pv])))[n]? = some (.lst (Rw.pvs (Rw.eachs ds) ++ [r.pv])) := set_get e2
      have k3 : Keep [n] S2 (S2.set n (.lst (Rw.pvs (Rw.eachs ds) ++ [r.pv]))) := .set (by simp)
      generalize S2.set n (.lst (Rw.pvs (Rw.eachs ds) ++ [r.pv])) = S3 at *
      have fin : r.each = [r] → J [some (.tup (rs.map Rw.pv)), some (.loc n), some r.pv] S3 := fun hr =>
        hJ _ _ ⟨_, rfl, by rw [e3, ea, hr]; simp [pvs_map], k2.trans k3⟩
      cases r with
      | set x v => simp [Rw.pv] at fin ⊢; exact fin rfl
      | send x => simp [Rw.pv] at fin ⊢; exact fin rfl
      | give x => simp [Rw.pv] at fin ⊢; exact fin rfl
      | iff x a b =>
        have lt3 := lt_of_get e3
        simp [Rw.each] at hle
        simp [Rw.dep] at hdp
        simp [Rw.pv, e3, -e_newK, -addP_loc, -e_lstO, -listP_ap]
        refine each_row_wp d a S3 _ _ (by omega) (by omega) ?_
        intro n4 S4 e4 k4 h4
        simp [-e_newK, -addP_loc, -e_lstO, -listP_ap]
        refine each_row_wp d b S4 _ _ (by omega) (by omega) ?_
        intro n5 S5 e5 k5 h5
        simp [-e_newK, -addP_loc, -e_lstO, -listP_ap]
        refine addL_wp (k5.get e4 (by simp)) e5 (by simp [pvs_map]; omega) ?_
        intro n6 S6 e6 k6 h6
        have e36 : S6[n]? = _ := k6.get (k5.get (k4.get e3 (by simp)) (by simp)) (by simp)
        simp [e36, e6]
        refine ⟨by simp [pvs_map] at *; omega, hJ _ _ ⟨_, rfl, ?_, ?_⟩⟩
        · rw [set_get e36, ea]
          simp [Rw.each, pvs_map, Rw.pv]
        · exact ((k2.trans k3).trans ((((k4.trans k5).trans k6).mono (by simp)))).trans (.set (by simp))
    · rintro τ S2 ⟨x, rfl, e2, k2⟩
      simp
      exact h n S2 e2 ((k1.mono (M' := [n]) (by simp)).trans k2 |>.mono fun x hx hlt => by simp at hx; omega) hn
end K15
namespace K15
open PySem PySem.Spec PyProof.Rows L2 PL
theorem is_name_wp {x : Str} {S : Sto} {P : PV → Sto → Prop} {R : Str → PV → Sto → Prop} (hx : Nm x) (h : ∀ S', Keep [] S S' → P (.bl true) S') : wp (m_is_name [.str x] S) P R := by
  unfold m_is_name
  rw [callS_wp]
  have hq := hx.q
  have hp := hx.p
  have l16 : x.length ≤ 16777216 := by omega
  simp [startE, l16, -e_newK]
  refine ⟨fun _ => ⟨fun _ => ?_, fun z => by exfalso; omega⟩, fun z => by exfalso; omega⟩
  refine acc_map (fun c => PV.str ⟨#[c]⟩) (fun c => PV.bl true) (by simp) (by have := ch_len x; unfold ch at this; simp only [List.length_nil]; omega) (fun c hc acc J hl hJ => ⟨_, rfl, ?_⟩) ?_
  · have hb : decide (Lt c) = true := decide_eq_true (hx.l c hc)
    simp [wipeE, stepE_wp, inB_char, hb, hl]
    exact hJ
  · refine new_wp ?_
    intro n S1 e1 k1 _
    have hbs : ∀ l : List Nat, boolsP (l.map fun _ => PV.bl true) = some (l.map fun _ => true) := by
      intro l
      induction l with
      | nil => rfl
      | cons a l ih => simp [boolsP, ih]
    simp [e1, hbs]
    have : (x.cps.all fun _ => true) = true := by simp [← Array.all_toList]
    rw [this]
    exact h S1 k1
theorem names_asked_wp {r : Rw} {S : Sto} {P : PV → Sto → Prop} {R : Str → PV → Sto → Prop} (h : ∀ n S', (∃ ys, S'[n]? = some (.lst ys) ∧ ys ++ [match r with | .set x _ => .str x | .iff x _ _ => .str x | .send x => .str x | .give x => .str x] = stL r.ins) → Keep [] S S' → S.length ≤ n → P (.loc n) S') : wp (m_names_asked [r.pv] S) P R := by
  unfold m_names_asked
  rw [callS_wp]
  cases r with
  | send x =>
    simp [startE, Rw.pv, -e_lstO, -listP_ap, -slP_tup]
    refine lst_wp (by simp) ?_
    intro n S1 e1 k1 h1
    simp
    exact h n S1 ⟨_, e1, rfl⟩ k1 h1
  | give x =>
    simp [startE, Rw.pv, -e_lstO, -listP_ap, -slP_tup]
    refine lst_wp (by simp) ?_
    intro n S1 e1 k1 h1
    simp
    exact h n S1 ⟨_, e1, rfl⟩ k1 h1
  | iff x a b =>
    simp [startE, Rw.pv, -e_lstO, -listP_ap, -slP_tup]
    refine lst_wp (by simp) ?_
    intro n S1 e1 k1 h1
    simp
    exact h n S1 ⟨_, e1, rfl⟩ k1 h1
  | set x v =>
    cases v with
    | call f xs =>
      simp [startE, Rw.pv, Vl.pv, -e_lstO, -listP_ap]
      refine list_wp (xs := stL xs) (by simp) ?_
      intro n S1 e1 k1 h1
      simp
      exact h n S1 ⟨_, e1, by simp [Rw.ins, Vl.asked, stL]⟩ k1 h1
    | num i =>
      simp [startE, Rw.pv, Vl.pv, -e_lstO, -listP_ap]
      refine lst_wp (by simp) ?_
      intro n S1 e1 k1 h1
      simp
      exact h n S1 ⟨_, e1, rfl⟩ k1 h1
    | _ =>
      simp [startE, Rw.pv, Vl.pv, -e_lstO, -listP_ap]
      refine list_wp (by simp; rfl) ?_
      intro n S1 e1 k1 h1
      simp
      exact h n S1 ⟨_, e1, rfl⟩ k1 h1
end K15
namespace K15
open PySem PySem.Spec PyProof.Rows L2 PL
theorem names_in_wp {r : Rw} {S : Sto} {P : PV → Sto → Prop} {R : Str → PV → Sto → Prop} (h : ∀ n S', S'[n]? = some (.lst (stL r.ins)) → Keep [] S S' → S.length ≤ n → P (.loc n) S') (hl : r.ins.length ≤ 1000) : wp (m_names_in [r.pv] S) P R := by
  unfold m_names_in
  rw [callS_wp]
  simp [startE, -e_lstO, -addP_loc]
  refine names_asked_wp ?_
  rintro n S1 ⟨ys, e1, hy⟩ k1 h1
  have hlen : ys.length + 1 ≤ 1000 := by
    have := congrArg List.length hy
    simp [stL] at this; omega
  cases r <;>
  · simp [Rw.pv, -e_lstO, -addP_loc]
    refine lst_wp (by simp) ?_
    intro n2 S2 e2 k2 h2
    simp [-e_lstO, -addP_loc]
    refine addL_wp (k2.get e1 (by simp)) e2 (by simp; omega) ?_
    intro n3 S3 e3 k3 h3
    simp
    refine h n3 S3 (by rw [e3]; simpa using hy) ((k1.trans k2).trans k3) (by have := k1.1; have := k2.1; omega)
theorem call_of_wp {r : Rw} {S : Sto} {P : PV → Sto → Prop} {R : Str → PV → Sto → Prop} (h : P r.called S) : wp (m_call_of [r.pv] S) P R := by
  unfold m_call_of
  rw [callS_wp]
  cases r with
  | set x v => cases v <;> (simp [startE, Rw.pv, Vl.pv, Rw.called] at h ⊢; exact h)
  | _ => simp [startE, Rw.pv, Rw.called] at h ⊢; exact h
end K15
namespace K15
open PySem PySem.Spec PyProof.Rows L2 PL
theorem is_nameB_wp {x : Str} {S : Sto} {P : PV → Sto → Prop} {R : Str → PV → Sto → Prop} (l16 : x.length ≤ 16777216) (h : ∀ S', Keep [] S S' → P (.bl (nmB x)) S') : wp (m_is_name [.str x] S) P R := by
  unfold m_is_name
  rw [callS_wp]
  simp [startE, l16, -e_newK]
  have hno : ¬ (1 ≤ x.length ∧ x.length ≤ 8) → nmB x = false := by
    intro z
    unfold nmB
    simp only [Bool.and_eq_false_iff, decide_eq_false_iff_not]
    omega
  refine ⟨fun h1 => ⟨fun h2 => ?_, fun z => ?_⟩, fun z => ?_⟩
  · refine accK_wp (fun c => PV.str ⟨#[c]⟩) (fun c => PV.bl (decide (Lt c))) (by simp) (by have := ch_len x; unfold ch at this; simp only [List.length_nil]; omega) (fun c hc acc S' J hl k hJ => ⟨_, rfl, ?_⟩) ?_
    · simp [wipeE, stepE_wp, inB_char, hl]
      exact hJ _ k
    · intro S' k
      refine new_wp ?_
      intro n S1 e1 k1 _
      simp [e1, boolsP_map]
      have : nmB x = x.cps.all fun c => decide (Lt c) := by
        unfold nmB
        simp [ch, show 1 ≤ x.length by omega, show x.length ≤ 8 by omega]
      rw [← this]
      exact h S1 (k.trans k1)
  · have := h S .refl
    rw [hno (by omega)] at this
    exact this
  · have := h S .refl
    rw [hno (by omega)] at this
    exact this
theorem is_sound_wp {d : Df} {hs : List Hd} {od : Nat} {S : Sto} {P : PV → Sto → Prop} {R : Str → PV → Sto → Prop} (ho : Oth od hs S) (hdep : Rw.deps d.2.2 < 6) (hcnt : (Rw.eachs d.2.2).length ≤ 1000) (hins : ∀ r ∈ Rw.eachs d.2.2, r.ins.length ≤ 1000) (hpl : d.2.1.length ≤ 1000) (hnl : ∀ x ∈ namesL d, x.length ≤ 1000)
    (h : ∀ S', Keep [] S S' → P (.bl (soundB hs d)) S') : wp (m_is_sound [d.pv, .loc od] S) P R := by
  have hfl : ((Rw.eachs d.2.2).flatMap Rw.ins).length ≤ 1000 * 1000 := by
    have := len_flatMap_le hins
    omega
  unfold m_is_sound
  rw [callS_wp]
  simp [startE, Df.pv, -e_newK, -addP_loc, -e_lstO, -listP_ap]
  refine each_row_wp 6 _ _ _ _ hdep hcnt ?_
  intro n S1 e1 k1 h1
  simp [e1, -e_newK, -addP_loc, -e_lstO, -listP_ap]
  rw [pvs_map]
  refine accF_wp Rw.pv (fun r => stL r.ins) (fun S' k => by simp; exact pvs_map _ ▸ k.get e1 (by simp)) ?_ (fun r hr acc S2 J hl k2 hJ => ⟨_, rfl, ?_⟩) ?_
  · have : ((Rw.eachs d.2.2).flatMap fun r => stL r.ins) = stL ((Rw.eachs d.2.2).flatMap Rw.ins) := by simp [stL, List.map_flatMap]
    rw [this]
    simp [stL]
    simp at hfl
    omega
  · rw [stepI_wp]
    simp [wipeE, -e_newK, -addP_loc, -e_lstO, -listP_ap]
    refine names_in_wp ?_ (hins r hr)
    intro m S3 e3 k3 h3
    simp [e3, -e_newK, -addP_loc, -e_lstO, -listP_ap]
    refine accK_wp PV.str PV.str (fun S' k => by simp; exact k.get e3 (by simp)) (by simpa [stL] using hl) (fun x hx acc S4 J hl k4 hJ => ⟨_, rfl, ?_⟩) ?_
    · simp [stepE_wp, wipeE, hl]
      exact hJ _ k4
    · intro S4 k4
      exact hJ S4 ((k2.trans k3).trans k4)
  · intro S2 k2
    refine new_wp ?_
    intro m S3 e3 k3 h3
    have lk3 := k3.1
    simp [-e_newK, -addP_loc, -e_lstO, -listP_ap, -slP_loc, -revP_loc, -e_dictM]
    refine list_wp (xs := stL d.2.1) (by simp) ?_
    intro m4 S4 e4 k4 h4
    have lk4 := k4.1
    simp [-e_newK, -addP_loc, -e_lstO, -listP_ap, -slP_loc, -revP_loc, -e_dictM]
    have en : ((Rw.eachs d.2.2).flatMap fun r => stL r.ins) = stL ((Rw.eachs d.2.2).flatMap Rw.ins) := by simp [stL, List.map_flatMap]
    refine addL_wp (by (repeat' (first | assumption | refine Keep.get (by assumption) ?_ (by first | (simp; done) | (simp; omega))))) e4 (by rw [List.nil_append, en]; simp only [stL, List.length_map]; omega) ?_
    intro m5 S5 e5 k5 h5
    have lk5 := k5.1
    have e5 : S5[m5]? = some (.lst (stL (namesL d))) := by rw [e5]; simp [stL, namesL, List.map_flatMap]
    have lnm : (namesL d).length ≤ 1000 * 1000 + 1000 := by simp only [namesL, List.length_append]; omega
    simp [e5, -e_newK, -addP_loc, -e_lstO, -listP_ap, -slP_loc, -revP_loc, -e_dictM]
    refine accK_wp PV.str (fun x => PV.bl (nmB x)) (fun S' k => by simp; (repeat' (first | assumption | refine Keep.get (by assumption) ?_ (by first | (simp; done) | (simp; omega))))) (by simp only [List.length_nil]; omega) (fun x hx acc S6 J hl k6 hJ => ⟨_, rfl, ?_⟩) ?_
    · simp [stepE_wp, wipeE, -e_newK, -addP_loc, -e_lstO, -listP_ap, -slP_loc, -revP_loc, -e_dictM]
      have := hnl x hx
      refine is_nameB_wp (by omega) ?_
      intro S7 k7
      simp [hl]
      exact hJ _ (k6.trans k7)
    · intro S6 k6
      refine new_wp ?_
      intro m7 S7 e7 k7 h7
      have lk7 := k7.1
      simp [e7, boolsP_map, -e_newK, -addP_loc, -e_lstO, -listP_ap, -slP_loc, -revP_loc, -e_dictM]
      have e17 : S7[n]? = some (.lst ((Rw.eachs d.2.2).map Rw.pv)) := by rw [← pvs_map]; (repeat' (first | assumption | refine Keep.get (by assumption) ?_ (by first | (simp; done) | (simp; omega))))
      have kk : Keep [] S S7 := by (repeat (first | exact Keep.refl | refine Keep.step ?_ (by assumption) (by first | (simp; done) | (intro x hx hlt; simp at hx ⊢; omega))))
      refine ⟨fun x hx hf => ?_, fun hall => ?_⟩
      · have : soundB hs d = false := by
          unfold soundB
          simp only [Bool.and_eq_false_iff, List.all_eq_false]
          exact .inl (.inl ⟨x, hx, by simp [hf]⟩)
        rw [← this]
        exact h S7 kk
      have lpl : (stL d.2.1).length = d.2.1.length := by simp [stL]
      simp [keysP_strs, lpl, e17, -e_newK, -addP_loc, -e_lstO, -listP_ap, -slP_loc, -revP_loc, -e_dictM]
      refine ⟨by omega, fun hlt => ?_, fun hlt => ?_⟩
      · have hnd := len_set_lt.mp hlt
        have : soundB hs d = false := by
          unfold soundB
          simp [hnd]
        rw [← this]
        exact h S7 kk
      have hnd : d.2.1.Nodup := by
        rcases Classical.em d.2.1.Nodup with q | q
        · exact q
        · have := len_set_lt.mpr q
          omega
      refine accF_wp Rw.pv (fun r => r.callL.map Cl.pv) (fun S' k => by simp; (repeat' (first | assumption | refine Keep.get (by assumption) ?_ (by first | (simp; done) | (simp; omega))))) ?_ (fun r hr acc S8 J hl k8 hJ => ⟨_, rfl, ?_⟩) ?_
      · have : ((Rw.eachs d.2.2).flatMap fun r => r.callL.map Cl.pv).length ≤ (Rw.eachs d.2.2).length * 1 := by
          refine len_flatMap_le fun r hr => ?_
          rcases callL_some (r := r) with ⟨_, q⟩ | ⟨c, _, q⟩ <;> simp [q]
        simp only [List.length_nil]; omega
      · rw [stepE_wp]
        simp [wipeE, -e_newK, -addP_loc, -e_lstO, -listP_ap, -slP_loc, -revP_loc, -e_dictM]
        refine call_of_wp ?_
        rcases callL_some (r := r) with ⟨q, q2⟩ | ⟨c, q, q2⟩
        · rw [q2] at hJ
          simp [q, -e_newK, -addP_loc, -e_lstO, -listP_ap, -slP_loc, -revP_loc, -e_dictM]
          simpa using hJ _ k8
        · rw [q2] at hJ hl
          simp [q, Cl.pv, -e_newK, -addP_loc, -e_lstO, -listP_ap, -slP_loc, -revP_loc, -e_dictM]
          refine call_of_wp ?_
          simp at hl
          simp [q, show acc.length < 16777216 by omega, -e_newK, -addP_loc, -e_lstO, -listP_ap, -slP_loc, -revP_loc, -e_dictM]
          exact hJ _ k8
      · intro S8 k8
        refine new_wp ?_
        intro m9 S9 e9 k9 h9
        have lk9 := k9.1
        have e9 : S9[m9]? = some (.lst ((callsL d).map Cl.pv)) := by rw [e9]; simp [callsL, List.map_flatMap]
        have o9 : Oth od hs S9 := ho.keep (M := []) (by (repeat (first | exact Keep.refl | refine Keep.step ?_ (by assumption) (by first | (simp; done) | (intro x hx hlt; simp at hx ⊢; omega))))) (by simp)
        have lcl : (callsL d).length ≤ (Rw.eachs d.2.2).length * 1 := by
          refine len_flatMap_le fun r hr => ?_
          rcases callL_some (r := r) with ⟨_, q⟩ | ⟨c, _, q⟩ <;> simp [q]
        simp [e9, -e_newK, -addP_loc, -e_lstO, -listP_ap, -slP_loc, -revP_loc, -e_dictM]
        refine accK_wp Cl.pv (fun c => PV.bl (callB hs c)) (fun S' k => by simp; (repeat' (first | assumption | refine Keep.get (by assumption) ?_ (by first | (simp; done) | (simp; omega))))) (by simp only [List.length_nil]; omega) (fun c hc acc S10 J hl k10 hJ => ⟨[some (.tup [.str d.1, .tup (stL d.2.1), .tup (Rw.pvs d.2.2)]), some (.loc od), some (.loc n), some (.loc m5), some (.loc m9), some (.str d.1), some (.tup (stL d.2.1)), some (.tup (Rw.pvs d.2.2)), none, none, some (.str c.1), some (.tup (stL c.2))], by simp [Cl.pv, wipeE], ?_⟩) ?_
        · obtain ⟨kvs, o1, o2, o3⟩ := (o9.keep k10 (by simp)).ex
          have o4 := o3 c.1
          rw [stepE_wp]
          have := hJ _ k10
          unfold callB at this
          cases hf : firstH hs c.1 with
          | none =>
            rw [hf] at o4 this
            simp only [Option.map_none] at o4
            simp [inB, o1, o4, hl]
            exact this
          | some ps =>
            rw [hf] at o4 this
            simp only [Option.map_some] at o4
            have e1 : (stL ps).length = ps.length := by simp [stL]
            have e2 : (stL c.2).length = c.2.length := by simp [stL]
            simp [inB, o1, o4, hl, e1, e2]
            have e3 : decide ((ps.length : Int) = (c.2.length : Int)) = decide (ps.length = c.2.length) := by
              by_cases q : ps.length = c.2.length <;> simp [q]; omega
            rw [e3]
            exact this
        · intro S10 k10
          refine new_wp ?_
          intro m11 S11 e11 k11 h11
          have lk11 := k11.1
          simp [e11, boolsP_map]
          have kk2 : Keep [] S S11 := by (repeat (first | exact Keep.refl | refine Keep.step ?_ (by assumption) (by first | (simp; done) | (intro x hx hlt; simp at hx ⊢; omega))))
          have := h S11 kk2
          unfold soundB at this
          have e1 : (namesL d).all nmB = true := List.all_eq_true.mpr hall
          simp only [e1, hnd, decide_true, Bool.and_self, Bool.true_and] at this
          exact this
end K15
namespace K15
open PySem PySem.Spec PyProof.Rows L2 PL
/-- the name of the first faulty definition -/
def faultAt (hs : List Hd) : List Str → List Df → Option Str
  | _, [] => none
  | met, d :: ds => if nmB d.1 = true ∧ d.1 ∉ met ∧ soundB hs d = true then faultAt hs (met ++ [d.1]) ds else some d.1
theorem faultAt_cons (hs : List Hd) (met : List Str) (d : Df) (ds : List Df) : faultAt hs met (d :: ds) = if nmB d.1 = true ∧ d.1 ∉ met ∧ soundB hs d = true then faultAt hs (met ++ [d.1]) ds else some d.1 := rfl
/-- what a program is refused with -/
def dueOf (ds : List Df) : Option PV := match faultAt (ds.map Df.hd) [] ds with
  | some x => some (.str x)
  | none => if firstH (ds.map Df.hd) (Str.ofString "main") = some [] then none else some .non
theorem faultAt_ok {hs : List Hd} : ∀ (ds : List Df) (met : List Str), (∀ d ∈ ds, nmB d.1 = true ∧ soundB hs d = true) → (met ++ ds.map (·.1)).Nodup → faultAt hs met ds = none
  | [], met, _, _ => rfl
  | d :: ds, met, h, nd => by
    have h1 := h d (by simp)
    have hn : d.1 ∉ met := fun z => by
      simp only [List.map_cons] at nd
      exact (List.nodup_append.mp nd).2.2 _ z d.1 (by simp) rfl
    unfold faultAt
    rw [if_pos ⟨h1.1, hn, h1.2⟩]
    exact faultAt_ok ds _ (fun e he => h e (by simp [he])) (by simpa using nd)
theorem dueOf_ok {ds : List Df} (p : Prg ds) : dueOf ds = none := by
  unfold dueOf
  rw [faultAt_ok ds [] p.sound (by simpa using p.nd), p.main]
  simp
theorem init_wp {ds : List Df} {sl dl : Nat} {S : Sto} {P : PV → Sto → Prop} {R : Str → PV → Sto → Prop} (hs : S[sl]? = some (.ins "Program" [])) (hd : S[dl]? = some (.lst (ds.map Df.pv))) (z : Sized ds) (hfair : ∀ d ∈ ds, ∀ x ∈ d.2.1, Fair x)
    (h : dueOf ds = none → ∀ n S', S'[sl]? = some (.ins "Program" [(Str.ofString "definitions_kept", .loc n)]) → S'[n]? = some (.lst (ds.map Df.pv)) → S.length ≤ n → Keep [sl] S S' → P .non S')
    (h0 : ∀ w, dueOf ds = some w → ∀ S', Keep [sl] S S' → R (Str.ofString "NoProgram") w S') : wp (m_Program_init [.loc sl, .loc dl] S) P R := by
  unfold m_Program_init
  rw [callS_wp]
  simp [startE, -e_newK, -addP_loc, -e_lstO, -listP_ap, -slP_loc, -revP_loc, -e_dictM]
  refine dict_wp ?_
  intro od S1 e1 k1 h1
  have lk1 := k1.1
  have hne : sl ≠ dl := fun q => by subst q; rw [hs] at hd; cases hd
  have lsl := lt_of_get hs
  have ldl := lt_of_get hd
  have hd1 : S1[dl]? = some (.lst (ds.map Df.pv)) := by (repeat' (first | assumption | refine Keep.get (by assumption) ?_ (by first | (simp; done) | (simp; omega))))
  simp [hd1, -e_newK, -addP_loc, -e_lstO, -listP_ap, -slP_loc, -revP_loc, -e_dictM]
  refine forM_wp Df.pv (fun dn τ S' => ∃ x5 x6 x7, τ = [some (.loc sl), some (.loc dl), some (.loc od), none, none, x5, x6, x7] ∧ Oth od (dn.map Df.hd) S' ∧ Keep [od] S1 S') ⟨_, _, _, rfl, ⟨[], e1, by simp, by simp [valP, firstH]⟩, .refl⟩ ?_ ?_
  · rintro dn d rs τ S2 J heq ⟨x5, x6, x7, rfl, o2, k2⟩ hJ
    have hl : dn.length < ds.length := by rw [heq]; simp
    have := z.len
    refine ⟨by simp; (repeat' (first | assumption | refine Keep.get (by assumption) ?_ (by first | (simp; done) | (simp; omega)))), [some (.loc sl), some (.loc dl), some (.loc od), none, none, some (.str d.1), some (.tup (stL d.2.1)), some (.tup (Rw.pvs d.2.2))], by simp [Df.pv], ?_⟩
    obtain ⟨kvs, q1, q2, q3, q4⟩ := o2.put (f := d.1) (ps := d.2.1) (by simp; omega)
    have fin : ∀ S3, Oth od (dn.map Df.hd ++ [(d.1, d.2.1)]) S3 → Keep [od] S2 S3 → J [some (.loc sl), some (.loc dl), some (.loc od), none, none, some (.str d.1), some (.tup (stL d.2.1)), some (.tup (Rw.pvs d.2.2))] S3 := fun S3 o3 k3 =>
      hJ _ _ ⟨_, _, _, rfl, by simpa [Df.hd] using o3, k2.trans k3⟩
    simp [q1, q2]
    cases hv : valP kvs (.inr d.1) with
    | none => simp; exact fin _ (q4 hv) (.set (by simp))
    | some v => simp; exact fin _ (q3 v hv) .refl
  · rintro τ S2 ⟨x5, x6, x7, rfl, o2, k2⟩
    refine ⟨by simp; (repeat' (first | assumption | refine Keep.get (by assumption) ?_ (by first | (simp; done) | (simp; omega)))), ?_⟩
    simp [-e_newK, -addP_loc, -e_lstO, -listP_ap, -slP_loc, -revP_loc, -e_dictM]
    refine lst_wp (by simp) ?_
    intro md S3 e3 k3 h3
    have lk3 := k3.1
    have o3 := o2.keep k3 (by simp)
    have lod := o2.lt
    have lk2 := k2.1
    have hd3 : S3[dl]? = some (.lst (ds.map Df.pv)) := by (repeat' (first | assumption | refine Keep.get (by assumption) ?_ (by first | (simp; done) | (simp; omega))))
    simp [hd3, -e_newK, -addP_loc, -e_lstO, -listP_ap, -slP_loc, -revP_loc, -e_dictM]
    refine forM_wp Df.pv (fun dn τ S' => ∃ x4, τ = [some (.loc sl), some (.loc dl), some (.loc od), some (.loc md), x4, x5, x6, x7] ∧ S'[md]? = some (.lst ((dn.map (·.1)).map PV.str)) ∧ Keep [md] S3 S' ∧ ∀ rest, ds = dn ++ rest → faultAt (ds.map Df.hd) (dn.map (·.1)) rest = faultAt (ds.map Df.hd) [] ds) ⟨_, rfl, by simpa using e3, .refl, fun rest e => by rw [e]; rfl⟩ ?_ ?_
    · rintro dn d rs τ S4 J heq ⟨x4, rfl, e4, k4, hfa⟩ hJ
      have hm : d ∈ ds := by rw [heq]; simp
      have hl : dn.length < ds.length := by rw [heq]; simp
      have := z.len
      have := z.own d hm
      have hfa := hfa (d :: rs) heq
      rw [faultAt_cons] at hfa
      have bad : ¬ (nmB d.1 = true ∧ d.1 ∉ dn.map (·.1) ∧ soundB (ds.map Df.hd) d = true) → ∀ S9, Keep [md] S3 S9 → R (Str.ofString "NoProgram") (.str d.1) S9 := by
        intro hb S9 k9
        rw [if_neg hb] at hfa
        refine h0 (.str d.1) (by unfold dueOf; rw [← hfa]) S9 ?_
        refine (((Keep.refl (M := [sl]) (S := S)).step k1 (by simp)).step k2 ?_ |>.step k3 (by simp)).step k9 ?_
        · intro x hx hlt; simp at hx; omega
        · intro x hx hlt; simp at hx; omega
      have o4 := o3.keep k4 (by simp; omega)
      refine ⟨by simp; (repeat' (first | assumption | refine Keep.get (by assumption) ?_ (by first | (simp; done) | (simp; omega)))), [some (.loc sl), some (.loc dl), some (.loc od), some (.loc md), some d.pv, x5, x6, x7], by simp, ?_⟩
      simp [-e_newK, -addP_loc, -e_lstO, -listP_ap, -slP_loc, -revP_loc, -e_dictM]
      have pv0 : ∀ S, getP d.pv (.int 0) S = some (.str d.1, S) := by intro S; simp [Df.pv]
      simp [pv0, -e_newK, -addP_loc, -e_lstO, -listP_ap, -slP_loc, -revP_loc, -e_dictM]
      refine is_nameB_wp (by omega) ?_
      intro S5 k5
      have e5 : S5[md]? = some (.lst ((dn.map (·.1)).map PV.str)) := by (repeat' (first | assumption | refine Keep.get (by assumption) ?_ (by first | (simp; done) | (simp; omega))))
      cases hn : nmB d.1 with
      | false =>
        simp [pv0, -e_newK, -addP_loc, -e_lstO, -listP_ap, -slP_loc, -revP_loc, -e_dictM]
        exact bad (by simp [hn]) S5 (k4.trans (k5.mono (by simp)))
      | true =>
        have hin : inB (.str d.1) (.loc md) S5 = some (decide (d.1 ∈ dn.map (·.1))) := inB_strs e5
        by_cases hmet : d.1 ∈ dn.map (·.1)
        · rw [decide_eq_true hmet] at hin
          simp [pv0, hin, -e_newK, -addP_loc, -e_lstO, -listP_ap, -slP_loc, -revP_loc, -e_dictM]
          exact bad (by simp only [not_and]; intro _ z; exact absurd hmet z) S5 (k4.trans (k5.mono (by simp)))
        · rw [decide_eq_false hmet] at hin
          simp [pv0, hin, -e_newK, -addP_loc, -e_lstO, -listP_ap, -slP_loc, -revP_loc, -e_dictM]
          refine is_sound_wp (o4.keep k5 (by simp)) (z.dep d hm) (z.cnt d hm) (z.ins d hm) (z.par d hm) (z.nms d hm) ?_
          intro S6 k6
          have e6 : S6[md]? = some (.lst ((dn.map (·.1)).map PV.str)) := by (repeat' (first | assumption | refine Keep.get (by assumption) ?_ (by first | (simp; done) | (simp; omega))))
          have k46 : Keep [md] S3 S6 := (k4.trans (k5.mono (by simp))).trans (k6.mono (by simp))
          cases hsd : soundB (ds.map Df.hd) d with
          | false =>
            simp [pv0, -e_newK, -addP_loc, -e_lstO, -listP_ap, -slP_loc, -revP_loc, -e_dictM]
            exact bad (by simp [hsd]) S6 k46
          | true =>
            rw [if_pos ⟨hn, hmet, hsd⟩] at hfa
            simp [pv0, e6, -e_newK, -addP_loc, -e_lstO, -listP_ap, -slP_loc, -revP_loc, -e_dictM]
            refine ⟨by omega, hJ _ _ ⟨_, rfl, ?_, ?_, ?_⟩⟩
            · rw [set_get e6]; simp
            · exact k46.trans (.set (by simp))
            · intro rest e
              have : rest = rs := by rw [heq] at e; simpa using e.symm
              subst this
              rw [List.map_append]
              exact hfa
    · rintro τ S4 ⟨x4, rfl, e4, k4, hfa⟩
      refine ⟨by simp; (repeat' (first | assumption | refine Keep.get (by assumption) ?_ (by first | (simp; done) | (simp; omega)))), ?_⟩
      have hfa := hfa [] (by simp)
      have hfa : faultAt (ds.map Df.hd) [] ds = none := hfa.symm
      obtain ⟨kvs, q1, q2, q3⟩ := (o3.keep k4 (by simp; omega)).ex
      have q4 := q3 (Str.ofString "main")
      have hd4 : S4[dl]? = some (.lst (ds.map Df.pv)) := by (repeat' (first | assumption | refine Keep.get (by assumption) ?_ (by first | (simp; done) | (simp; omega))))
      have lk4 := k4.1
      have kall : Keep [sl] S S4 := by
        refine (((Keep.refl (M := [sl]) (S := S)).step k1 (by simp)).step k2 ?_ |>.step k3 (by simp)).step k4 ?_
        · intro x hx hlt; simp at hx; omega
        · intro x hx hlt; simp at hx; omega
      have key : ∀ (b : Bool) (v : PV), ((valP kvs (.inr (Str.ofString "main"))).getD (.tup [.str (Str.ofString "main")])) = v → eqB v (.tup []) S4 = some b → (b = true ↔ firstH (ds.map Df.hd) (Str.ofString "main") = some []) → True := fun _ _ _ _ _ => trivial
      obtain ⟨v, hv, hpl, hiff⟩ : ∃ v, (valP kvs (.inr (Str.ofString "main"))).getD (.tup [.str (Str.ofString "main")]) = v ∧ Pl 1 v ∧ (v = .tup [] ↔ firstH (ds.map Df.hd) (Str.ofString "main") = some []) := by
        rw [q4]
        cases hf : firstH (ds.map Df.hd) (Str.ofString "main") with
        | none => exact ⟨_, rfl, by simp only [Option.map_none, Option.getD_none, Pl, PlL]; exact ⟨ofS_fair "main", trivial⟩, by simp⟩
        | some ps =>
          refine ⟨_, rfl, ?_, by cases ps <;> simp [stL]⟩
          simp only [Option.map_some, Option.getD_some, Pl]
          refine fairL fun x hx => ?_
          unfold firstH at hf
          simp only [Option.map_eq_some_iff] at hf
          obtain ⟨q, hq1, hq2⟩ := hf
          obtain ⟨d, hd, rfl⟩ := List.mem_map.mp (List.mem_of_find?_eq_some hq1)
          exact hfair d hd x (by rw [← hq2] at hx; exact hx)
      obtain ⟨b, hb1, hb2⟩ := eqB_plain (n := 1) (S := S4) (q := PV.tup []) (by decide) hpl (by simp [Pl, PlL])
      simp [q1, hv, hb1, hd4, -e_newK, -addP_loc, -e_lstO, -listP_ap, -slP_loc, -revP_loc, -e_dictM]
      cases hb : b with
      | false =>
        subst hb
        simp [-e_newK, -addP_loc, -e_lstO, -listP_ap, -slP_loc, -revP_loc, -e_dictM]
        refine h0 .non ?_ S4 kall
        unfold dueOf
        rw [hfa]
        simp only
        rw [if_neg]
        intro z
        have := hb2.mpr (hiff.mpr z)
        cases this
      | true =>
        subst hb
        simp [hd4, -e_newK, -addP_loc, -e_lstO, -listP_ap, -slP_loc, -revP_loc, -e_dictM]
        refine list_wp (xs := ds.map Df.pv) (by simp [hd4]) ?_
        intro n S5 e5 k5 h5
        have lk5 := k5.1
        have hs4 : S4[sl]? = some (.ins "Program" []) := by
          refine (Keep.get k4 (Keep.get k3 (Keep.get k2 (Keep.get k1 hs (by simp)) ?_) (by simp)) ?_)
          · simp; omega
          · simp; omega
        have hs5 : S5[sl]? = some (.ins "Program" []) := k5.get hs4 (by simp)
        simp [hs5, putG, -e_newK, -addP_loc, -e_lstO, -listP_ap, -slP_loc, -revP_loc, -e_dictM]
        have hdue : dueOf ds = none := by
          unfold dueOf
          rw [hfa]
          simp only
          rw [if_pos (hiff.mp (hb2.mp rfl))]
        refine h hdue n _ (set_get hs5) ?_ (by omega) ?_
        · rw [List.getElem?_set_ne (by omega)]; exact e5
        · exact (kall.trans (k5.mono (by simp))).trans (.set (by simp))
end K15
namespace K15
open PySem PySem.Spec PyProof.Rows L2 PL
theorem make_wp {ds : List Df} {ha : Nat} {S : Sto} {P : PV → Sto → Prop} {R : Str → PV → Sto → Prop} (e : S[ha]? = some (.lst (ds.map Df.pv))) (z : Sized ds) (hfair : ∀ d ∈ ds, ∀ x ∈ d.2.1, Fair x)
    (h : dueOf ds = none → ∀ pl n S', S'[pl]? = some (.ins "Program" [(Str.ofString "definitions_kept", .loc n)]) → S'[n]? = some (.lst (ds.map Df.pv)) → S.length ≤ pl → S.length ≤ n → Keep [] S S' → P (.loc pl) S')
    (h0 : ∀ w, dueOf ds = some w → ∀ S', Keep [] S S' → R (Str.ofString "NoProgram") w S') :
    wp (m_Program_init [.loc S.length, .loc ha] (S ++ [.ins "Program" []])) (wK (madeO S.length) P R) R := by
  refine init_wp (ds := ds) app_new (by rw [List.getElem?_append_left (lt_of_get e)]; exact e) z hfair ?_ ?_
  · intro hd n S6 i1 i2 i3 k6
    have : S.length ≤ n := by simp at i3; omega
    exact h hd S.length n S6 i1 i2 (Nat.le_refl _) this ((Keep.app (M := [])).step k6 (by intro x hx hlt; simp at hx; omega))
  · intro w hw S6 k6
    exact h0 w hw S6 ((Keep.app (M := [])).step k6 (by intro x hx hlt; simp at hx; omega))
theorem makeP_wp {ds : List Df} {ha : Nat} {S : Sto} {P : PV → Sto → Prop} {R : Str → PV → Sto → Prop} (e : S[ha]? = some (.lst (ds.map Df.pv))) (p : Prg ds)
    (h : ∀ pl n S', S'[pl]? = some (.ins "Program" [(Str.ofString "definitions_kept", .loc n)]) → S'[n]? = some (.lst (ds.map Df.pv)) → S.length ≤ pl → S.length ≤ n → Keep [] S S' → P (.loc pl) S') :
    wp (m_Program_init [.loc S.length, .loc ha] (S ++ [.ins "Program" []])) (wK (madeO S.length) P R) R :=
  make_wp e p.sized (fun d hd => (p.fair d hd).2.1) (fun _ => h) fun w hw => by rw [dueOf_ok p] at hw; cases hw
end K15
namespace K15
open PySem PySem.Spec PyProof.Rows L2 PL
/-- the deck at t, its great ones at g, at most B mixed draws so far -/
structure Deck (t g : Nat) (B : Nat) (S : Sto) : Prop where
  ne : t ≠ g
  ex : ∃ (gs : List Int) (f c : Int), S[t]? = some (.lst [.loc g, .int f, .int c]) ∧ S[g]? = some (.lst (gs.map PV.int)) ∧ 0 ≤ f ∧ f < 2305843009213693951 ∧ 0 ≤ c ∧ c ≤ B
theorem Deck.keep {t g B : Nat} {M : List Nat} {S S' : Sto} (T : Deck t g B S) (k : Keep M S S') (ht : t ∉ M) (hg : g ∉ M) : Deck t g B S' := by
  obtain ⟨gs, f, c, h1, h2, h3⟩ := T.ex
  exact ⟨T.ne, gs, f, c, k.get h1 ht, k.get h2 hg, h3⟩
theorem Deck.up {t g B B' : Nat} {S : Sto} (T : Deck t g B S) (h : B ≤ B') : Deck t g B' S := by
  obtain ⟨gs, f, c, h1, h2, h3, h4, h5, h6⟩ := T.ex
  exact ⟨T.ne, gs, f, c, h1, h2, h3, h4, h5, by omega⟩
theorem Deck.lt {t g B : Nat} {S : Sto} (T : Deck t g B S) : t < S.length ∧ g < S.length := by
  obtain ⟨gs, f, c, h1, h2, _⟩ := T.ex
  exact ⟨lt_of_get h1, lt_of_get h2⟩
theorem map_split {α β : Type} {f : α → β} {ns : List α} {dn rs : List β} {p : β} (h : ns.map f = dn ++ p :: rs) : ∃ n, p = f n ∧ n ∈ ns := by
  have : p ∈ ns.map f := by rw [h]; simp
  obtain ⟨n, hn, e⟩ := List.mem_map.mp this
  exact ⟨n, e.symm, hn⟩
theorem ixN_last (n : Nat) : ixN (n + 1) (-1) = some n := by
  unfold ixN
  rw [if_neg (by omega), if_pos (by omega)]
  congr 1
  omega
theorem deck_wp {ns : List Int} (hn : ns.length ≤ 63) {P : PV → Sto → Prop} {R : Str → PV → Sto → Prop} (h : ∀ t g S, Deck t g 0 S → P (.loc t) S) :
    wp (m__law_deck [.fls (ns.map PV.int)] []) P R := by
  unfold m__law_deck
  rw [callS_wp]
  simp [startE]
  refine forL_inv (fun dn rs τ S => ∃ (fold : Int) (gs : List Int) (x3 : Option PV), τ = [some (.fls (ns.map PV.int)), some (.loc 0), some (.int fold), x3] ∧ S = [.lst (gs.map PV.int)] ∧ 0 ≤ fold ∧ fold < 2305843009213693951 ∧ gs.length ≤ dn.length)
    ⟨_, [], _, rfl, rfl, by decide, by decide, Nat.le_refl _⟩ ?_ ?_
  · rintro dn p rs τ S e ⟨fold, gs, x3, rfl, rfl, f0, f1, hl⟩
    obtain ⟨n, rfl, _⟩ := map_split e
    have hd : dn.length < 63 := by
      have := congrArg List.length e
      simp at this; omega
    simp
    exact ⟨fun _ => ⟨by omega, ((if n < 0 then -n else n) - 1000000000000000000) :: gs, by simp, by omega, by omega, by simp; omega⟩, fun _ => ⟨gs, rfl, by omega, by omega, by omega⟩⟩
  · rintro τ S ⟨fold, gs, x3, rfl, rfl, f0, f1, hl⟩
    simp
    exact h 1 0 _ ⟨by decide, gs, fold, 0, rfl, rfl, f0, f1, by decide, by decide⟩
theorem take_wp {t g B : Nat} {S : Sto} {m : Int} (T : Deck t g B S) (hB : B < 1000000000000000000) (hm : 0 < m) (hm2 : m ≤ 1000000000) {P : PV → Sto → Prop} {R : Str → PV → Sto → Prop}
    (h : ∀ (n : Int) S', 0 ≤ n → n < m → Deck t g (B + 1) S' → Keep [t, g] S S' → P (.int n) S') : wp (m__law_take [.loc t, .int m] S) P R := by
  unfold m__law_take
  rw [callS_wp]
  simp [startE]
  obtain ⟨gs, f, c, h1, h2, f0, f1, c0, c1⟩ := T.ex
  refine while_wp (fun m' τ S' => τ = [some (.loc t), some (.int m), none, none, none] ∧ Keep [t, g] S S' ∧ ∃ (gs : List Int), gs.length = m' ∧ S'[t]? = some (.lst [.loc g, .int f, .int c]) ∧ S'[g]? = some (.lst (gs.map PV.int)))
    ⟨rfl, .refl, gs, rfl, h1, h2⟩ ?_
  rintro m' τ S1 C J ⟨rfl, K, gs, rfl, q1, q2⟩ hT hF hJ
  have ne := T.ne
  have hend : ∀ S2, Keep [t, g] S S2 → S2[t]? = some (.lst [.loc g, .int f, .int c]) → S2[g]? = some (.lst (gs.map PV.int)) → C false S2 := by
    intro S2 K q1 q2
    refine hF S2 ?_
    have lt := lt_of_get q2
    have e2 : (S2 ++ [Ob.lst []])[g]? = some (.lst (gs.map PV.int)) := by rw [List.getElem?_append_left lt]; exact q2
    have e1 : (S2 ++ [Ob.lst []])[t]? = some (.lst [.loc g, .int f, .int c]) := by rw [List.getElem?_append_left (lt_of_get q1)]; exact q1
    obtain ⟨bb, he, hbb⟩ := eqB_lists (n := 0) (by decide) e2 (app_new (S := S2) (o := .lst [])) (PlL_iff.mpr fun x hx => by obtain ⟨i, _, rfl⟩ := List.mem_map.mp hx; simp [Pl]) (by simp [PlL])
    simp [q1, he]
    have K2 : Keep [t, g] S (S2 ++ [Ob.lst []]) := K.trans .app
    generalize hS3 : S2 ++ [Ob.lst []] = S3 at *
    rcases List.eq_nil_or_concat gs with hgs | ⟨gs', n, hgs⟩
    · have : bb = true := hbb.mpr (by simp [hgs])
      subst this
      simp [e1, set_get e1]
      generalize hX : (f + 40503) * (c + 1 + 5) ^ 3 + 69621 * (c + 1) = X
      have x0 : 0 ≤ X % 2305843009213693951 := Int.emod_nonneg _ (by decide)
      have x1 : X % 2305843009213693951 < 2305843009213693951 := Int.emod_lt_of_pos _ (by decide)
      refine ⟨by omega, .inl ⟨by omega, by omega⟩, by omega, hm, ?_⟩
      exact h _ _ (Int.emod_nonneg _ (by omega)) (Int.emod_lt_of_pos _ hm) ⟨T.ne, gs, f, c + 1, set_get e1, by rw [List.getElem?_set_ne ne]; exact e2, f0, f1, by omega, by omega⟩ (K2.trans (.set (by simp)))
    · have : bb = false := by
        cases bb with
        | false => rfl
        | true => have := hbb.mp rfl; simp [hgs] at this
      subst this
      have e2' := e2
      simp only [hgs, List.concat_eq_append, List.map_append, List.map_cons, List.map_nil] at e2'
      simp [e1, e2', atI_last, ixN_last]
      refine ⟨hm, ⟨hm, by omega⟩, ?_⟩
      refine h _ _ (Int.emod_nonneg _ (by omega)) (Int.emod_lt_of_pos _ hm) ⟨T.ne, gs' ++ [n / m], f, c, by rw [List.getElem?_set_ne ne.symm]; exact e1, ?_, f0, f1, c0, by omega⟩ (K2.trans (.set (by simp)))
      rw [set_get e2']
      simp
  have lt := lt_of_get q2
  have e2 : (S1 ++ [Ob.lst []])[g]? = some (.lst (gs.map PV.int)) := by rw [List.getElem?_append_left lt]; exact q2
  have e1 : (S1 ++ [Ob.lst []])[t]? = some (.lst [.loc g, .int f, .int c]) := by rw [List.getElem?_append_left (lt_of_get q1)]; exact q1
  obtain ⟨bb, he, hbb⟩ := eqB_lists (n := 0) (by decide) e2 (app_new (S := S1) (o := .lst [])) (PlL_iff.mpr fun x hx => by obtain ⟨i, _, rfl⟩ := List.mem_map.mp hx; simp [Pl]) (by simp [PlL])
  simp [q1, he]
  have K2 : Keep [t, g] S (S1 ++ [Ob.lst []]) := K.trans .app
  generalize hS3 : S1 ++ [Ob.lst []] = S3 at *
  rcases List.eq_nil_or_concat gs with hgs | ⟨gs', n, hgs⟩
  · have : bb = true := hbb.mpr (by simp [hgs])
    subst this
    simp
    exact hend _ K2 e1 e2
  · have : bb = false := by
      cases bb with
      | false => rfl
      | true => have := hbb.mp rfl; simp [hgs] at this
    subst this
    have e2' := e2
    simp only [hgs, List.concat_eq_append, List.map_append, List.map_cons, List.map_nil] at e2'
    simp [e1, e2', atI_last]
    by_cases hn : n < 2
    · simp [hn]
      refine hT _ ?_
      simp [e1, e2']
      refine hJ gs'.length _ _ (by simp [hgs]) ⟨rfl, K2.trans (.set (by simp)), gs', rfl, by rw [List.getElem?_set_ne ne.symm]; exact e1, set_get e2'⟩
    · simp [hn]
      exact hend _ K2 e1 e2
end K15
namespace K15
open PySem PySem.Spec PyProof.Rows L2 PL
abbrev sA : Str := Str.ofString "a"
mutual
/-- ifs, gives, sends over the name a -/
def Plain : Rw → Prop
  | .iff x a b => x = sA ∧ Plains a ∧ Plains b
  | .send x => x = sA
  | .give x => x = sA
  | .set _ _ => False
def Plains : List Rw → Prop
  | [] => True
  | r :: rs => Plain r ∧ Plains rs
end
theorem plains_app : ∀ {a b : List Rw}, Plains (a ++ b) ↔ Plains a ∧ Plains b
  | [], b => by simp [Plains]
  | r :: a, b => by simp [Plains, plains_app (a := a), and_assoc]
theorem size_wp : ∀ (d : Nat) (rs : List Rw) (S : Sto) (P : PV → Sto → Prop) (R : Str → PV → Sto → Prop), Rw.deps rs < d →
    P (.int ((Rw.eachs rs).length : Nat)) S → wp (m__law_size d [.tup (Rw.pvs rs)] S) P R
  | 0, _, _, _, _, h, _ => by omega
  | d + 1, rs, S, P, R, hd, h => by
    unfold m__law_size
    rw [callS_wp]
    simp [startE, -e_newK, -addP_loc, -e_lstO, -listP_ap, -slP_loc, -revP_loc, -e_dictM]
    rw [pvs_map]
    refine forM_wp Rw.pv (fun ds τ S' => S' = S ∧ ∃ (x : Option PV), τ = [some (.tup (rs.map Rw.pv)), some (.int ((Rw.eachs ds).length : Nat)), x]) ⟨rfl, none, rfl⟩ ?_ ?_
    · rintro ds r rs' τ S2 J hrs ⟨rfl, x, rfl⟩ hJ
      have ea : (Rw.eachs (ds ++ [r])).length = (Rw.eachs ds).length + r.each.length := by rw [eachs_app]; simp [Rw.eachs]
      have hdp : r.dep < d + 1 := by
        rw [hrs, deps_app] at hd
        simp [Rw.deps] at hd
        omega
      refine ⟨by simp, _, rfl, ?_⟩
      simp [-e_newK, -addP_loc, -e_lstO, -listP_ap, -slP_loc, -revP_loc, -e_dictM]
      have fin : J [some (.tup (rs.map Rw.pv)), some (.int (((Rw.eachs ds).length : Int) + (r.each.length : Int))), some r.pv] S2 :=
        hJ _ _ ⟨rfl, _, by rw [ea]; simp; rfl⟩
      cases r with
      | set x v => simp only [Rw.each, Rw.pv] at fin; simp [Rw.pv, -e_newK, -addP_loc, -e_lstO, -listP_ap, -slP_loc, -revP_loc, -e_dictM]; exact fin
      | send x => simp only [Rw.each, Rw.pv] at fin; simp [Rw.pv, -e_newK, -addP_loc, -e_lstO, -listP_ap, -slP_loc, -revP_loc, -e_dictM]; exact fin
      | give x => simp only [Rw.each, Rw.pv] at fin; simp [Rw.pv, -e_newK, -addP_loc, -e_lstO, -listP_ap, -slP_loc, -revP_loc, -e_dictM]; exact fin
      | iff x a b =>
        simp [Rw.dep] at hdp
        simp [Rw.pv, -e_newK, -addP_loc, -e_lstO, -listP_ap, -slP_loc, -revP_loc, -e_dictM]
        refine size_wp d a S2 _ _ (by omega) ?_
        simp [-e_newK, -addP_loc, -e_lstO, -listP_ap, -slP_loc, -revP_loc, -e_dictM]
        refine size_wp d b S2 _ _ (by omega) ?_
        simp [-e_newK, -addP_loc, -e_lstO, -listP_ap, -slP_loc, -revP_loc, -e_dictM]
        have e : ((Rw.eachs ds).length : Int) + 1 + (Rw.eachs a).length + (Rw.eachs b).length = (Rw.eachs ds).length + ((Rw.iff x a b).each.length : Nat) := by simp [Rw.each]; omega
        rw [e]
        exact fin
    · rintro τ S2 ⟨rfl, x, rfl⟩
      simp [-e_newK, -addP_loc, -e_lstO, -listP_ap, -slP_loc, -revP_loc, -e_dictM]
      exact h
/-- how deep the depth's fuel goes -/
theorem block_wp {t g : Nat} : ∀ (d : Nat) (deep : Int) (r room : Nat) (B : Nat) (S : Sto) (P : PV → Sto → Prop) (R : Str → PV → Sto → Prop), Deck t g B S → B + 1000 * room + 1000 < 1000000000000000000 → (d : Int) + deep = 6 → 1 ≤ deep → deep ≤ 4 →
    S[r]? = some (.lst [.int room]) → r ≠ t → r ≠ g →
    (∀ (rs : List Rw) (room' : Nat) S', Plains rs → Rw.deps rs + deep ≤ 5 → (Rw.eachs rs).length + room' = room → S'[r]? = some (.lst [.int room']) → Deck t g (B + 1000 * (room - room') + 1) S' → Keep [t, g, r] S S' → P (.tup (Rw.pvs rs)) S') →
    wp (m__law_block d [.loc t, .loc r, .int deep] S) P R
  | 0, deep, _, _, _, _, _, _, _, _, h1, h2, h3, _, _, _, _ => by omega
  | d + 1, deep, r, room, B, S, P, R, T, hB, hdd, h1, h4, e0, n1, n2, h => by
    unfold m__law_block
    rw [callS_wp]
    simp [startE, -e_newK, -addP_loc, -e_lstO, -listP_ap, -slP_loc, -revP_loc, -e_dictM]
    refine lst_wp (by simp) ?_
    intro f S1 e1 k1 g1
    have lk1 := k1.1
    simp [-e_newK, -addP_loc, -e_lstO, -listP_ap, -slP_loc, -revP_loc, -e_dictM]
    refine lst_wp (by simp) ?_
    intro o S2 e2 k2 g2
    have lk2 := k2.1
    simp [e2, -e_newK, -addP_loc, -e_lstO, -listP_ap, -slP_loc, -revP_loc, -e_dictM]
    have hcap : ∃ cap : Int, atI [PV.int 6, PV.int 3, PV.int 3, PV.int 3] (deep - 1) = some (.int cap) ∧ 0 < cap ∧ cap ≤ 6 := by
      have : deep = 1 ∨ deep = 2 ∨ deep = 3 ∨ deep = 4 := by omega
      rcases this with rfl | rfl | rfl | rfl
      · exact ⟨6, by simp, by decide, by decide⟩
      · exact ⟨3, by simp, by decide, by decide⟩
      · exact ⟨3, by simp, by decide, by decide⟩
      · exact ⟨3, by simp, by decide, by decide⟩
    obtain ⟨cap, hc1, hc2, hc3⟩ := hcap
    simp [hc1, -e_newK, -addP_loc, -e_lstO, -listP_ap, -slP_loc, -revP_loc, -e_dictM]
    have ltT := T.lt
    have T2 : Deck t g B S2 := (T.keep k1 (by simp) (by simp)).keep k2 (by simp) (by simp)
    refine take_wp T2 (by omega) hc2 (by omega) ?_
    intro n S3 hn0 hn1 T3 k3
    simp [-e_newK, -addP_loc, -e_lstO, -listP_ap, -slP_loc, -revP_loc, -e_dictM]
    refine ⟨by unfold rngOk; omega, ?_⟩
    have lr := lt_of_get e0
    have e03 : S3[r]? = some (.lst [.int room]) := by (repeat' (first | assumption | refine Keep.get (by assumption) ?_ (by first | (simp; done) | (simp; omega))))
    have ef3 : S3[f]? = some (.lst []) := by (repeat' (first | assumption | refine Keep.get (by assumption) ?_ (by first | (simp; done) | (simp; omega))))
    have nfr : f ≠ r ∧ f ≠ t ∧ f ≠ g := by omega
    have kS3 : Keep [t, g, r] S S3 := by (repeat (first | exact Keep.refl | refine Keep.step ?_ (by assumption) (by first | (simp; done) | (intro x hx hlt; simp at hx ⊢; omega))))
    generalize hN : n.toNat = N
    have hnN : n = (N : Int) := by omega
    rw [hnN]
    refine forR_wp (fun i τ S' => (∃ x4 x5, τ = [some (.loc t), some (.loc r), some (.int deep), some (.loc f), x4, x5]) ∧ ∃ (rs : List Rw) (room' : Nat), Plains rs ∧ Rw.deps rs + deep ≤ 5 ∧ (Rw.eachs rs).length + room' = room ∧ rs.length ≤ i ∧
        S'[r]? = some (.lst [.int room']) ∧ S'[f]? = some (.lst (Rw.pvs rs)) ∧ Deck t g (B + 1000 * (room - room') + 1) S' ∧ Keep [t, g, r, f] S3 S')
      ⟨⟨_, _, rfl⟩, [], room, trivial, by simp [Rw.deps]; omega, by simp [Rw.eachs], by simp, e03, ef3, T3.up (by omega), .refl⟩ ?_ ?_
    · rintro i τ S4 J hi ⟨⟨x4, x5, rfl⟩, rs, room', p1, p2, p3, p4, q1, q2, T4, k4⟩ hJ
      refine ⟨by simp, _, rfl, ?_⟩
      have gap : ∀ r2 : Nat, room' ≤ room := fun _ => by omega
      have hle := gap 0
      simp [q1, -e_newK, -addP_loc, -e_lstO, -listP_ap, -slP_loc, -revP_loc, -e_dictM]
      have ltT4 := T4.lt
      have same : room' = 0 → J [some (.loc t), some (.loc r), some (.int deep), some (.loc f), some (.int i), x5] S4 := fun hz =>
        hJ _ _ ⟨⟨_, _, rfl⟩, rs, room', p1, p2, p3, by omega, q1, q2, T4, k4⟩
      refine ⟨fun hpos => ?_, fun hz => same (by omega)⟩
      have k5 : Keep [r] S4 (S4.set r (.lst [.int ((room' : Int) - 1)])) := .set (by simp)
      have e5 : (S4.set r (.lst [.int ((room' : Int) - 1)]))[r]? = some (.lst [.int ((room' : Int) - 1)]) := set_get q1
      have T5 : Deck t g _ (S4.set r (.lst [.int ((room' : Int) - 1)])) := T4.keep k5 (by simp; omega) (by simp; omega)
      have f5 : (S4.set r (.lst [.int ((room' : Int) - 1)]))[f]? = some (.lst (Rw.pvs rs)) := by rw [List.getElem?_set_ne (by omega)]; exact q2
      generalize S4.set r (.lst [.int ((room' : Int) - 1)]) = S5 at *
      refine take_wp T5 (by omega) (by omega) (by omega) ?_
      intro pk S6 w0 w1 T6 k6
      have e6 : S6[r]? = some (.lst [.int ((room' : Int) - 1)]) := by (repeat' (first | assumption | refine Keep.get (by assumption) ?_ (by first | (simp; done) | (simp; omega))))
      have f6 : S6[f]? = some (.lst (Rw.pvs rs)) := by (repeat' (first | assumption | refine Keep.get (by assumption) ?_ (by first | (simp; done) | (simp; omega))))
      have lf := lt_of_get f6
      have app1 : ∀ q : Rw, Rw.pvs (rs ++ [q]) = Rw.pvs rs ++ [q.pv] := fun q => by rw [pvs_map, pvs_map]; simp
      have ea : ∀ q : Rw, (Rw.eachs (rs ++ [q])).length = (Rw.eachs rs).length + q.each.length := fun q => by rw [eachs_app]; simp [Rw.eachs]
      have ed : ∀ q : Rw, Rw.deps (rs ++ [q]) = max (Rw.deps rs) q.dep := fun q => by rw [deps_app]; simp [Rw.deps]
      have plen : (Rw.pvs rs).length = rs.length := by rw [pvs_map]; simp
      simp [f6, -e_newK, -addP_loc, -e_lstO, -listP_ap, -slP_loc, -revP_loc, -e_dictM]
      refine ⟨fun hp => ⟨fun hd4 => ?_, fun hd4 => ?_⟩, fun hp => ?_⟩
      rotate_left
      iterate 2
        · refine lst_wp (by simp) ?_
          intro o S7 e7 k7 g7
          have lk7 := k7.1
          simp [-e_newK, -addP_loc, -e_lstO, -listP_ap, -slP_loc, -revP_loc, -e_dictM]
          have T7 := T6.keep k7 (by simp) (by simp)
          refine take_wp T7 (by omega) (by omega) (by omega) ?_
          intro w S8 w20 w21 T8 k8
          have e8 : S8[o]? = some (.lst [.str (Str.ofString "give"), .str (Str.ofString "send"), .str (Str.ofString "send")]) := by
            have := T7.lt; have := T6.lt; (repeat' (first | assumption | refine Keep.get (by assumption) ?_ (by first | (simp; done) | (simp; omega))))
          have f8 : S8[f]? = some (.lst (Rw.pvs rs)) := by (repeat' (first | assumption | refine Keep.get (by assumption) ?_ (by first | (simp; done) | (simp; omega))))
          have r8 : S8[r]? = some (.lst [.int ((room' : Int) - 1)]) := by (repeat' (first | assumption | refine Keep.get (by assumption) ?_ (by first | (simp; done) | (simp; omega))))
          obtain ⟨q, hq1, hq2, hq3, hq4, hdq⟩ : ∃ q : Rw, atI [PV.str (Str.ofString "give"), PV.str (Str.ofString "send"), PV.str (Str.ofString "send")] w = some (match q with | .give _ => .str (Str.ofString "give") | _ => .str (Str.ofString "send")) ∧ Plain q ∧ q.each = [q] ∧ q.pv = .tup [match q with | .give _ => .str (Str.ofString "give") | _ => .str (Str.ofString "send"), .str sA] ∧ q.dep = 1 := by
            have : w = 0 ∨ w = 1 ∨ w = 2 := by omega
            rcases this with rfl | rfl | rfl
            · exact ⟨.give sA, by simp, rfl, rfl, rfl, rfl⟩
            · exact ⟨.send sA, by simp, rfl, rfl, rfl, rfl⟩
            · exact ⟨.send sA, by simp, rfl, rfl, rfl, rfl⟩
          simp [e8, hq1, f8, plen, -e_newK, -addP_loc, -e_lstO, -listP_ap, -slP_loc, -revP_loc, -e_dictM]
          have hm := set_get (o := .lst (Rw.pvs (rs ++ [q]))) f8
          have km : Keep [f] S8 (S8.set f (.lst (Rw.pvs (rs ++ [q])))) := .set (by simp)
          rw [← hq4, ← app1]
          generalize S8.set f (.lst (Rw.pvs (rs ++ [q]))) = S9 at *
          have T9 := T8.keep km (by simp; omega) (by simp; omega)
          have le := len_eachs rs
          refine ⟨by omega, hJ _ _ ⟨⟨_, _, rfl⟩, rs ++ [q], room' - 1, plains_app.mpr ⟨p1, hq2, trivial⟩, by rw [ed, hdq]; omega, by rw [ea, hq3]; simp; omega, by simp; omega, ?_, hm, T9.up (by omega), by (repeat (first | exact Keep.refl | refine Keep.step ?_ (by assumption) (by first | (simp; done) | (intro x hx hlt; simp at hx ⊢; omega))))⟩⟩
          have r9 : S9[r]? = some (.lst [.int ((room' : Int) - 1)]) := by (repeat' (first | assumption | refine Keep.get (by assumption) ?_ (by first | (simp; done) | (simp; omega))))
          rw [r9, show ((room' - 1 : Nat) : Int) = (room' : Int) - 1 by omega]
      · have e6' : S6[r]? = some (.lst [.int ((room' - 1 : Nat) : Int)]) := by rw [e6, show ((room' - 1 : Nat) : Int) = (room' : Int) - 1 by omega]
        refine block_wp d (deep + 1) r (room' - 1) _ S6 _ _ T6 (by omega) (by omega) (by omega) (by omega) e6' n1 n2 ?_
        intro ra ro1 S7 a1 a2 a3 e7 T7 k7
        have f7 : S7[f]? = some (.lst (Rw.pvs rs)) := by have := T6.lt; have := lt_of_get e6; (repeat' (first | assumption | refine Keep.get (by assumption) ?_ (by first | (simp; done) | (simp; omega))))
        simp [-e_newK, -addP_loc, -e_lstO, -listP_ap, -slP_loc, -revP_loc, -e_dictM]
        refine block_wp d (deep + 1) r ro1 _ S7 _ _ T7 (by omega) (by omega) (by omega) (by omega) e7 n1 n2 ?_
        intro rb ro2 S8 b1 b2 b3 e8 T8 k8
        have f8 : S8[f]? = some (.lst (Rw.pvs rs)) := by have := T7.lt; have := lt_of_get e7; (repeat' (first | assumption | refine Keep.get (by assumption) ?_ (by first | (simp; done) | (simp; omega))))
        have hq4 : (Rw.iff sA ra rb).pv = .tup [.str (Str.ofString "if"), .str sA, .tup (Rw.pvs ra), .tup (Rw.pvs rb)] := rfl
        simp [f8, plen, -e_newK, -addP_loc, -e_lstO, -listP_ap, -slP_loc, -revP_loc, -e_dictM]
        have hm := set_get (o := .lst (Rw.pvs (rs ++ [.iff sA ra rb]))) f8
        have km : Keep [f] S8 (S8.set f (.lst (Rw.pvs (rs ++ [.iff sA ra rb])))) := .set (by simp)
        rw [← hq4, ← app1]
        generalize S8.set f (.lst (Rw.pvs (rs ++ [.iff sA ra rb]))) = S9 at *
        have T9 := T8.keep km (by simp; omega) (by simp; omega)
        have le := len_eachs rs
        refine ⟨by omega, hJ _ _ ⟨⟨_, _, rfl⟩, rs ++ [.iff sA ra rb], ro2, plains_app.mpr ⟨p1, (show Plain (.iff sA ra rb) from ⟨rfl, a1, b1⟩), trivial⟩, by rw [ed]; simp only [Rw.dep]; omega, by rw [ea]; simp only [Rw.each, List.length_cons, List.length_append]; omega, by simp; omega, by (repeat' (first | assumption | refine Keep.get (by assumption) ?_ (by first | (simp; done) | (simp; omega)))), hm, T9.up (by omega), by (repeat (first | exact Keep.refl | refine Keep.step ?_ (by assumption) (by first | (simp; done) | (intro x hx hlt; simp at hx ⊢; omega))))⟩⟩
    · rintro τ S4 ⟨⟨x4, x5, rfl⟩, rs, room', p1, p2, p3, p4, q1, q2, T4, k4⟩
      refine ⟨by simp, ?_⟩
      simp [q2, -e_newK, -addP_loc, -e_lstO, -listP_ap, -slP_loc, -revP_loc, -e_dictM]
      refine h rs room' S4 p1 p2 p3 q1 T4 ?_
      (repeat (first | exact Keep.refl | refine Keep.step ?_ (by assumption) (by first | (simp; done) | (intro x hx hlt; simp at hx ⊢; omega))))
end K15
namespace K15
open PySem PySem.Spec PyProof.Rows L2 PL
/-! ### what stands behind what, as the law goes along: from the last row to the first -/
def startN (rs : List Rw) (n b : Nat) : Nat := match rs with | [] => b | _ => n
def sz (r : Rw) : Nat := r.each.length
mutual
/-- pairs of rows, the first of number n, what is behind them b -/
def backs : List Rw → Nat → Nat → List (Nat × Nat)
  | [], _, _ => []
  | r :: rs, n, b => backs rs (n + r.each.length) b ++ back1 r n (startN rs (n + r.each.length) b)
def back1 : Rw → Nat → Nat → List (Nat × Nat)
  | .give _, n, _ => [(n, 0)]
  | .send _, n, b => [(n, b)]
  | .iff _ x y, n, b => backs x (n + 1) b ++ [(n, startN x (n + 1) b)] ++ (backs y (n + 1 + (Rw.eachs x).length) b ++ [(n, startN y (n + 1 + (Rw.eachs x).length) b)])
  | .set _ _, n, _ => []
end
/-! ### as the program tells it -/
mutual
def nexts : List Rw → Nat → Nat → List (Nat × Nat)
  | [], _, _ => []
  | r :: rs, n, b => next1 r n (startN rs (n + r.each.length) b) ++ nexts rs (n + r.each.length) b
def next1 : Rw → Nat → Nat → List (Nat × Nat)
  | .give _, n, _ => [(n, 0)]
  | .iff _ x y, n, b => [(n, startN x (n + 1) b), (n, startN y (n + 1 + (Rw.eachs x).length) b)] ++ (nexts x (n + 1) b ++ nexts y (n + 1 + (Rw.eachs x).length) b)
  | .send _, n, b => [(n, b)]
  | .set _ _, n, b => [(n, b)]
end
mutual
theorem same1 (p : Nat × Nat) : ∀ (r : Rw) (n b : Nat), Plain r → (p ∈ next1 r n b ↔ p ∈ back1 r n b)
  | .give _, n, b, _ => by simp [next1, back1]
  | .send _, n, b, _ => by simp [next1, back1]
  | .set _ _, n, b, h => h.elim
  | .iff _ x y, n, b, h => by
    simp only [next1, back1, List.mem_append, List.mem_cons, List.not_mem_nil, or_false, sames p x (n + 1) b h.2.1, sames p y (n + 1 + (Rw.eachs x).length) b h.2.2]
    constructor
    · rintro ((h | h) | h | h) <;> simp [h]
    · rintro ((h | h) | h | h) <;> simp [h]
theorem sames (p : Nat × Nat) : ∀ (rs : List Rw) (n b : Nat), Plains rs → (p ∈ nexts rs n b ↔ p ∈ backs rs n b)
  | [], n, b, _ => by simp [nexts, backs]
  | r :: rs, n, b, h => by
    simp only [nexts, backs, List.mem_append, same1 p r n _ h.1, sames p rs _ b h.2]
    exact Or.comm
end
def pairP (p : Nat × Nat) : PV := .tup [.int (p.1 : Nat), .int (p.2 : Nat)]
mutual
theorem len_next1 : ∀ (r : Rw) (n b : Nat), (next1 r n b).length ≤ 2 * r.each.length
  | .give _, n, b => by simp [next1, Rw.each]
  | .send _, n, b => by simp [next1, Rw.each]
  | .set _ _, n, b => by simp [next1, Rw.each]
  | .iff _ x y, n, b => by
    have h1 := len_nexts x (n + 1) b
    have h2 := len_nexts y (n + 1 + (Rw.eachs x).length) b
    simp [next1, Rw.each]; omega
theorem len_nexts : ∀ (rs : List Rw) (n b : Nat), (nexts rs n b).length ≤ 2 * (Rw.eachs rs).length
  | [], n, b => by simp [nexts]
  | r :: rs, n, b => by
    have h1 := len_next1 r n (startN rs (n + r.each.length) b)
    have h2 := len_nexts rs (n + r.each.length) b
    simp [nexts, Rw.eachs]; omega
end
mutual
theorem len_back1 : ∀ (r : Rw) (n b : Nat), (back1 r n b).length ≤ 2 * r.each.length
  | .give _, n, b => by simp [back1, Rw.each]
  | .send _, n, b => by simp [back1, Rw.each]
  | .set _ _, n, b => by simp [back1, Rw.each]
  | .iff _ x y, n, b => by
    have h1 := len_backs x (n + 1) b
    have h2 := len_backs y (n + 1 + (Rw.eachs x).length) b
    simp [back1, Rw.each]; omega
theorem len_backs : ∀ (rs : List Rw) (n b : Nat), (backs rs n b).length ≤ 2 * (Rw.eachs rs).length
  | [], n, b => by simp [backs]
  | r :: rs, n, b => by
    have h1 := len_back1 r n (startN rs (n + r.each.length) b)
    have h2 := len_backs rs (n + r.each.length) b
    simp [backs, Rw.eachs]; omega
end
theorem backs_app : ∀ (rs qs : List Rw) (n b : Nat), backs (rs ++ qs) n b = backs qs (n + (Rw.eachs rs).length) b ++ backs rs n (startN qs (n + (Rw.eachs rs).length) b)
  | [], qs, n, b => by simp [backs, Rw.eachs]
  | r :: rs, qs, n, b => by
    have h : startN (rs ++ qs) (n + r.each.length) b = startN rs (n + r.each.length) (startN qs (n + r.each.length + (Rw.eachs rs).length) b) := by
      cases rs with
      | nil => simp [startN, Rw.eachs]
      | cons a as => rfl
    simp only [List.cons_append, backs, backs_app rs qs, Rw.eachs, List.length_append, h, List.append_assoc, Nat.add_assoc]
/-- the law's going -/
theorem back_wp : ∀ (d : Nat) (rs : List Rw) (n b f : Nat) (ps : List PV) (S : Sto) (P : PV → Sto → Prop) (R : Str → PV → Sto → Prop), Plains rs → Rw.deps rs < d → d ≤ 6 → S[f]? = some (.lst ps) → ps.length + 2 * (Rw.eachs rs).length ≤ 1000 →
    (∀ S', S'[f]? = some (.lst (ps ++ (backs rs n b).map pairP)) → Keep [f] S S' → P (.int (startN rs n b : Nat)) S') → wp (m__law_back d [.tup (Rw.pvs rs), .int (n : Nat), .int (b : Nat), .loc f] S) P R
  | 0, _, _, _, _, _, _, _, _, _, h, _, _, _, _ => by omega
  | d + 1, rs, n, b, f, ps, S, P, R, hp, hd, h6, hf, hl, h => by
    unfold m__law_back
    rw [callS_wp]
    simp [startE, -e_newK, -addP_loc, -e_lstO, -listP_ap, -slP_loc, -revP_loc, -e_dictM]
    refine size_wp 6 rs S _ _ (by omega) ?_
    simp [-e_newK, -addP_loc, -e_lstO, -listP_ap, -slP_loc, -revP_loc, -e_dictM]
    have hrv : (Rw.pvs rs).reverse = (rs.map Rw.pv).reverse := by rw [pvs_map]
    rw [hrv]
    have lf := lt_of_get hf
    rw [← List.map_reverse]
    refine forM_wp Rw.pv (fun ds τ S' => ∃ (pre : List Rw) (x5 x6 : Option PV) , rs = pre ++ ds.reverse ∧ τ = [some (.tup (Rw.pvs rs)), some (.int n), some (.int (startN ds.reverse (n + (Rw.eachs pre).length) b : Nat)), some (.loc f), some (.int (n + (Rw.eachs pre).length : Nat)), x5, x6] ∧
        S'[f]? = some (.lst (ps ++ (backs ds.reverse (n + (Rw.eachs pre).length) b).map pairP)) ∧ Keep [f] S S')
      ?_ ?_ ?_
    · exact ⟨rs, none, none, by simp, by simp [startN], by simpa [backs] using hf, .refl⟩
    · rintro ds r rest τ S2 J hrs ⟨pre, x5, x6, e1, rfl, e2, k2⟩ hJ
      have hpre : pre = rest.reverse ++ [r] := by
        have h1 : rs = rest.reverse ++ [r] ++ ds.reverse := by
          have := congrArg List.reverse hrs
          simpa using this
        rw [h1] at e1
        exact (List.append_cancel_right e1).symm
      subst hpre
      generalize rest.reverse = pr at *
      have hpl : Plain r := by
        rw [e1] at hp
        exact ((plains_app.mp (plains_app.mp hp).1).2).1
      have hdr : r.dep < d + 1 := by
        rw [e1, deps_app, deps_app] at hd
        simp [Rw.deps] at hd
        omega
      have hlr : (Rw.eachs (pr ++ [r])).length = (Rw.eachs pr).length + r.each.length := by rw [eachs_app]; simp [Rw.eachs]
      have hll : (Rw.eachs pr).length + r.each.length + (Rw.eachs ds.reverse).length = (Rw.eachs rs).length := by
        rw [e1, eachs_app, eachs_app]; simp [Rw.eachs]; omega
      have hbl := len_backs ds.reverse (n + (Rw.eachs (pr ++ [r])).length) b
      refine ⟨by simp, _, rfl, ?_⟩
      simp [-e_newK, -addP_loc, -e_lstO, -listP_ap, -slP_loc, -revP_loc, -e_dictM]
      refine size_wp 6 [r] S2 _ _ (by simp [Rw.deps]; omega) ?_
      have e1r : (Rw.eachs [r]).length = r.each.length := by simp [Rw.eachs]
      rw [e1r]
      generalize hm : n + (Rw.eachs pr).length = m
      have hm2 : n + (Rw.eachs (pr ++ [r])).length = m + r.each.length := by omega
      rw [hm2] at e2 hbl ⊢
      generalize hbh : startN ds.reverse (m + r.each.length) b = bh at *
      have hsub : ((m + r.each.length : Nat) : Int) - (r.each.length : Nat) = (m : Nat) := by omega
      generalize hdone : backs ds.reverse (m + r.each.length) b = done at *
      have fin : ∀ x6 S', S'[f]? = some (.lst (ps ++ (done ++ back1 r m bh).map pairP)) → Keep [f] S S' → J [some (.tup (Rw.pvs rs)), some (.int n), some (.int (m : Nat)), some (.loc f), some (.int (m : Nat)), some r.pv, x6] S' := by
        intro x6 S' q1 q2
        refine hJ _ _ ⟨pr, some r.pv, x6, by rw [e1]; simp, ?_, ?_, q2⟩
        · simp [startN, hm]
        · rw [q1]; simp [backs, hm, hdone, hbh]
      clear hJ
      have pl : (ps ++ done.map pairP).length + 2 * r.each.length ≤ 1000 := by simp; omega
      generalize hq : ps ++ done.map pairP = qs at *
      have hend : (n : Int) + (Rw.eachs (pr ++ [r])).length - r.each.length = (m : Nat) := by omega
      have lf2 := lt_of_get e2
      simp [-e_newK, -addP_loc, -e_lstO, -listP_ap, -slP_loc, -revP_loc, -e_dictM]
      rw [hend]
      clear hsub hend
      cases r with
      | set x v => exact hpl.elim
      | give x =>
        simp [Rw.pv, e2, -e_newK, -addP_loc, -e_lstO, -listP_ap, -slP_loc, -revP_loc, -e_dictM]
        simp [Rw.each] at pl
        refine ⟨by omega, ?_⟩
        exact fin _ _ (by rw [set_get e2, ← hq]; simp [back1, pairP]) (k2.trans (.set (by simp)))
      | send x =>
        simp [Rw.pv, e2, -e_newK, -addP_loc, -e_lstO, -listP_ap, -slP_loc, -revP_loc, -e_dictM]
        simp [Rw.each] at pl
        refine ⟨by omega, ?_⟩
        exact fin _ _ (by rw [set_get e2, ← hq]; simp [back1, pairP]) (k2.trans (.set (by simp)))
      | iff x a c =>
        obtain ⟨_, pa, pc⟩ := hpl
        simp [Rw.dep] at hdr
        simp [Rw.each] at pl
        have la := len_backs a (m + 1) bh
        have lc := len_backs c (m + 1 + (Rw.eachs a).length) bh
        simp [Rw.pv, -e_newK, -addP_loc, -e_lstO, -listP_ap, -slP_loc, -revP_loc, -e_dictM]
        refine size_wp 6 a S2 _ _ (by omega) ?_
        simp [e2, -e_newK, -addP_loc, -e_lstO, -listP_ap, -slP_loc, -revP_loc, -e_dictM]
        have z1 : ((m : Nat) : Int) + 1 = ((m + 1 : Nat) : Int) := by omega
        have z2 : ((m : Nat) : Int) + 1 + (Rw.eachs a).length = ((m + 1 + (Rw.eachs a).length : Nat) : Int) := by omega
        rw [z2, z1]
        refine back_wp d a (m + 1) bh f qs S2 _ _ pa (by omega) (by omega) e2 (by omega) ?_
        intro S3 e3 k3
        simp [e3, -e_newK, -addP_loc, -e_lstO, -listP_ap, -slP_loc, -revP_loc, -e_dictM]
        refine ⟨by omega, ?_⟩
        have k4 : Keep [f] S3 (S3.set f (.lst (qs ++ (((backs a (m + 1) bh).map pairP) ++ [pairP (m, startN a (m + 1) bh)])))) := .set (by simp)
        have e4 := set_get (o := .lst (qs ++ (((backs a (m + 1) bh).map pairP) ++ [pairP (m, startN a (m + 1) bh)]))) e3
        simp only [pairP] at k4 e4
        generalize S3.set f (.lst (qs ++ (((backs a (m + 1) bh).map pairP) ++ [.tup [.int (m : Nat), .int (startN a (m + 1) bh : Nat)]]))) = S4 at *
        have i2 : ((m : Nat) : Int) + 1 + ((Rw.eachs a).length : Nat) = ((m + 1 + (Rw.eachs a).length : Nat) : Int) := by omega
        simp [e4, -e_newK, -addP_loc, -e_lstO, -listP_ap, -slP_loc, -revP_loc, -e_dictM]
        rw [i2]
        refine back_wp d c (m + 1 + (Rw.eachs a).length) bh f _ S4 _ _ pc (by omega) (by omega) e4 (by simp; omega) ?_
        intro S5 e5 k5
        simp [e5, -e_newK, -addP_loc, -e_lstO, -listP_ap, -slP_loc, -revP_loc, -e_dictM]
        refine ⟨by omega, ?_⟩
        refine fin _ _ ?_ (by have := lt_of_get e5; have k6 : Keep [f] S5 (S5.set f (.lst (qs ++ (((backs a (m + 1) bh).map pairP) ++ (PV.tup [.int (m : Nat), .int (startN a (m + 1) bh : Nat)] :: (((backs c (m + 1 + (Rw.eachs a).length) bh).map pairP) ++ [PV.tup [.int (m : Nat), .int (startN c (m + 1 + (Rw.eachs a).length) bh : Nat)]])))))) := .set (by simp); exact (((k2.trans k3).trans k4).trans k5).trans k6)
        rw [set_get e5, ← hq]
        simp [back1, pairP, List.append_assoc]
    · rintro τ S2 ⟨pre, x5, x6, e1, rfl, e2, k2⟩
      have hpre : pre = [] := by
        have := congrArg List.length e1
        simp at this
        exact this
      subst hpre
      refine ⟨by simp, ?_⟩
      simp [-e_newK, -addP_loc, -e_lstO, -listP_ap, -slP_loc, -revP_loc, -e_dictM]
      simp [Rw.eachs] at e2
      have := h S2 e2 k2
      simpa [Rw.eachs] using this
end K15
namespace K15
open PySem PySem.Spec PyProof.Rows L2 PL
theorem size_of_wp {rs : List Rw} {S : Sto} {P : PV → Sto → Prop} {R : Str → PV → Sto → Prop} (hd : Rw.deps rs < 6) (hl : (Rw.eachs rs).length ≤ 1000) (h : ∀ S', Keep [] S S' → P (.int ((Rw.eachs rs).length : Nat)) S') :
    wp (m_size_of [.tup (Rw.pvs rs)] S) P R := by
  unfold m_size_of
  rw [callS_wp]
  simp [startE, -e_newK, -addP_loc, -e_lstO, -listP_ap, -slP_loc, -revP_loc, -e_dictM]
  refine each_row_wp 6 rs S _ _ hd hl ?_
  intro n S1 e1 k1 g1
  have : (Rw.pvs (Rw.eachs rs)).length = (Rw.eachs rs).length := by rw [pvs_map]; simp
  simp [e1, this, -e_newK, -addP_loc, -e_lstO, -listP_ap, -slP_loc, -revP_loc, -e_dictM]
  exact h S1 k1
theorem nexts_drop (rs : List Rw) (b : Nat) : ∀ (i n : Nat) (r : Rw), rs[i]? = some r → nexts (rs.drop i) n b = next1 r n (startN (rs.drop (i + 1)) (n + r.each.length) b) ++ nexts (rs.drop (i + 1)) (n + r.each.length) b := by
  intro i n r h
  rw [drop_of_get h]
  rfl
theorem emp (rs : List Rw) (n b : Nat) : ((0 < (Rw.pvs rs).length ∧ ¬ Rw.pvs rs = []) ∧ startN rs n b = n) ∨ ((Rw.pvs rs = [] ∧ Rw.pvs rs = []) ∧ startN rs n b = b) := by
  cases rs with
  | nil => exact .inr ⟨⟨rfl, rfl⟩, rfl⟩
  | cons r rs => exact .inl ⟨⟨by simp [Rw.pvs], by simp [Rw.pvs]⟩, rfl⟩
/-- the program's telling -/
theorem nexts_wp : ∀ (d : Nat) (rs : List Rw) (n b : Nat) (S : Sto) (P : PV → Sto → Prop) (R : Str → PV → Sto → Prop), Plains rs → Rw.deps rs < d → d ≤ 6 → (Rw.eachs rs).length ≤ 400 →
    (∀ l S', S'[l]? = some (.lst ((nexts rs n b).map pairP)) → Keep [] S S' → S.length ≤ l → P (.loc l) S') → wp (m_nexts d [.tup (Rw.pvs rs), .int (n : Nat), .int (b : Nat)] S) P R
  | 0, _, _, _, _, _, _, _, h, _, _, _ => by omega
  | d + 1, rs, n, b, S, P, R, hp, hd, h6, hl, h => by
    unfold m_nexts
    rw [callS_wp]
    simp [startE, -e_newK, -addP_loc, -e_lstO, -listP_ap, -slP_loc, -revP_loc, -e_dictM]
    refine lst_wp (by simp) ?_
    intro f S1 e1 k1 g1
    have lk1 := k1.1
    simp [-e_newK, -addP_loc, -e_lstO, -listP_ap, -slP_loc, -revP_loc, -e_dictM]
    rw [pvs_map]
    have lrs := len_eachs rs
    refine forE_wp Rw.pv (fun i τ S' => ∃ (done : List (Nat × Nat)) (x4 x5 x6 x7 x8 : Option PV), nexts rs n b = done ++ nexts (rs.drop i) (n + (Rw.eachs (rs.take i)).length) b ∧
        τ = [some (.tup (rs.map Rw.pv)), some (.int (n + (Rw.eachs (rs.take i)).length : Nat)), some (.int (b : Nat)), some (.loc f), x4, x5, x6, x7, x8] ∧ S'[f]? = some (.lst (done.map pairP)) ∧ Keep [f] S1 S')
      ?_ ?_ ?_
    · exact ⟨[], none, none, none, none, none, by simp [Rw.eachs], by simp [Rw.eachs], by simpa using e1, .refl⟩
    · rintro i r τ S2 J hr ⟨done, x4, x5, x6, x7, x8, hn, rfl, e2, k2⟩ hJ
      refine ⟨by simp, _, rfl, ?_⟩
      have hil : i < rs.length := (List.getElem?_eq_some_iff.mp hr).1
      have htk : (Rw.eachs (rs.take (i + 1))).length = (Rw.eachs (rs.take i)).length + r.each.length := by
        rw [List.take_succ, hr, eachs_app]; simp [Rw.eachs]
      have hsplit : rs = rs.take i ++ r :: rs.drop (i + 1) := by
        rw [← drop_of_get hr, List.take_append_drop]
      have hcnt : (Rw.eachs (rs.take i)).length + r.each.length ≤ (Rw.eachs rs).length := by
        rw [← htk]
        have := congrArg (fun q => (Rw.eachs q).length) (List.take_append_drop (i + 1) rs)
        simp only [eachs_app, List.length_append] at this
        omega
      have hpr : Plain r := by
        rw [hsplit] at hp
        exact (plains_app.mp hp).2.1
      have hdr : r.dep < d + 1 := by
        rw [hsplit, deps_app] at hd
        simp only [Rw.deps] at hd
        omega
      generalize hm : n + (Rw.eachs (rs.take i)).length = m at *
      rw [nexts_drop rs b i m r hr] at hn
      have hdl : done.length + (next1 r m (startN (rs.drop (i + 1)) (m + r.each.length) b)).length ≤ 2 * (Rw.eachs rs).length := by
        have q := congrArg List.length hn
        simp only [List.length_append] at q
        have := len_nexts rs n b
        omega
      have lf2 := lt_of_get e2
      have fin : ∀ x4 x5 x6 x7 x8 S', S'[f]? = some (.lst ((done ++ next1 r m (startN (rs.drop (i + 1)) (m + r.each.length) b)).map pairP)) → Keep [f] S1 S' →
          J [some (.tup (rs.map Rw.pv)), some (.int (m + r.each.length : Nat)), some (.int (b : Nat)), some (.loc f), x4, x5, x6, x7, x8] S' := by
        intro x4 x5 x6 x7 x8 S' q1 q2
        refine hJ _ _ ⟨_, x4, x5, x6, x7, x8, ?_, ?_, q1, q2⟩
        · rw [hn, htk, ← hm, List.append_assoc]
          simp [Nat.add_assoc]
        · rw [htk, ← hm]; simp [Nat.add_assoc]
      clear hJ
      simp [cut_one Rw.pv hr, -e_newK, -addP_loc, -e_lstO, -listP_ap, -slP_loc, -revP_loc, -e_dictM]
      have c1 : cutP (rs.map Rw.pv) (some (i : Nat)) (some ((i : Nat) + 1)) = Rw.pvs [r] := by rw [cut_one Rw.pv hr]; rfl
      have e1r : (Rw.eachs [r]).length = r.each.length := by simp [Rw.eachs]
      rw [show [r.pv] = Rw.pvs [r] from rfl]
      refine size_of_wp (by simp [Rw.deps]; omega) (by omega) ?_
      intro S3 k3
      rw [e1r]
      have e3 : S3[f]? = some (.lst (done.map pairP)) := by (repeat' (first | assumption | refine Keep.get (by assumption) ?_ (by first | (simp; done) | (simp; omega))))
      have lf3 := lt_of_get e3
      simp [-e_newK, -addP_loc, -e_lstO, -listP_ap, -slP_loc, -revP_loc, -e_dictM]
      have c0 : ((m : Nat) : Int) + (r.each.length : Nat) = ((m + r.each.length : Nat) : Int) := by omega
      rw [c0]
      generalize hfu : m + r.each.length = fu at *
      have hth1 : i + 1 < rs.length → startN (rs.drop (i + 1)) fu b = fu := fun hlt => by
        cases hd : rs.drop (i + 1) with
        | nil => simp at hd; omega
        | cons q qs => rfl
      have hth2 : ¬ i + 1 < rs.length → startN (rs.drop (i + 1)) fu b = b := fun hlt => by
        rw [List.drop_eq_nil_of_le (by omega)]; rfl
      have tail : ∀ th : Nat, startN (rs.drop (i + 1)) fu b = th → wpS ((ifS (blM (binM eqP (binM getP (vV 5) (cV (.int 0))) (cV (.str "give")))) (exprS (mtM "list" appendP (vV 3) (aC (tupM (aC (vV 1) (aC (cV (.int 0)) aN))) aN)))
            (ifS (blM (binM eqP (binM getP (vV 5) (cV (.int 0))) (cV (.str "if")))) (seqS (asgS (binM addP (binM addP (vV 1) (cV (.int 1))) (callD m_size_of (aC (binM getP (vV 5) (cV (.int 2))) aN))) (gN 8)) (seqS (exprS (mtM "list" appendP (vV 3) (aC (tupM (aC (vV 1) (aC (ifM (blM (binM gtP (callM (on1 lenP) (aC (binM getP (vV 5) (cV (.int 2))) aN)) (cV (.int 0)))) (binM addP (vV 1) (cV (.int 1))) (vV 7)) aN))) aN))) (seqS (exprS (mtM "list" appendP (vV 3) (aC (tupM (aC (vV 1) (aC (ifM (blM (binM gtP (callM (on1 lenP) (aC (binM getP (vV 5) (cV (.int 3))) aN)) (cV (.int 0)))) (vV 8) (vV 7)) aN))) aN))) (exprS (mtM "list" extendP (vV 3) (aC (binM addP (callD (m_nexts d) (aC (binM getP (vV 5) (cV (.int 2))) (aC (binM addP (vV 1) (cV (.int 1))) (aC (vV 7) aN)))) (callD (m_nexts d) (aC (binM getP (vV 5) (cV (.int 3))) (aC (vV 8) (aC (vV 7) aN))))) aN)))))) (exprS (mtM "list" appendP (vV 3) (aC (tupM (aC (vV 1) (aC (vV 7) aN))) aN))))) [some (.tup (rs.map Rw.pv)), some (.int (m : Nat)), some (.int (b : Nat)), some (.loc f), some (.int (i : Nat)), some r.pv, some (.int (fu : Nat)), some (.int (th : Nat)), x8] S3) (sK (asgS (vV 6) (gN 1)) J P (dropK R)) P (dropK R) := by
        intro th hth
        rw [hth] at fin hdl hn
        cases r with
        | set x v => exact hpr.elim
        | give x =>
          simp [Rw.pv, e3, -e_newK, -addP_loc, -e_lstO, -listP_ap, -slP_loc, -revP_loc, -e_dictM]
          simp [next1, Rw.each] at hdl hcnt
          refine ⟨by omega, ?_⟩
          exact fin _ _ _ _ _ _ (by rw [set_get e3]; simp [next1, pairP]) ((k2.trans (k3.mono (by simp))).trans (.set (by simp)))
        | send x =>
          simp [Rw.pv, e3, -e_newK, -addP_loc, -e_lstO, -listP_ap, -slP_loc, -revP_loc, -e_dictM]
          simp [next1, Rw.each] at hdl hcnt
          refine ⟨by omega, ?_⟩
          exact fin _ _ _ _ _ _ (by rw [set_get e3]; simp [next1, pairP]) ((k2.trans (k3.mono (by simp))).trans (.set (by simp)))
        | iff x a c =>
          obtain ⟨_, pa, pc⟩ := hpr
          simp [Rw.dep] at hdr
          simp [Rw.each] at hcnt
          simp [Rw.pv, -e_newK, -addP_loc, -e_lstO, -listP_ap, -slP_loc, -revP_loc, -e_dictM]
          refine size_of_wp (rs := a) (by omega) (by omega) ?_
          intro S4 k4
          have e4 : S4[f]? = some (.lst (done.map pairP)) := by (repeat' (first | assumption | refine Keep.get (by assumption) ?_ (by first | (simp; done) | (simp; omega))))
          have lf4 := lt_of_get e4
          have z1 : ((m : Nat) : Int) + 1 = ((m + 1 : Nat) : Int) := by omega
          have z2 : ((m : Nat) : Int) + 1 + (Rw.eachs a).length = ((m + 1 + (Rw.eachs a).length : Nat) : Int) := by omega
          generalize hm2 : m + 1 + (Rw.eachs a).length = m2 at *
          simp only [next1, List.length_append, List.length_cons, List.length_nil, hm2] at hdl
          have fin2 := fun x4 x5 x6 x7 x8 S' => fin x4 x5 x6 x7 x8 S'
          simp only [next1, hm2] at fin2
          rcases emp a (m + 1) th with ⟨⟨la, la'⟩, sa⟩ | ⟨⟨la, la'⟩, sa⟩ <;> rcases emp c m2 th with ⟨⟨lc, lc'⟩, sc⟩ | ⟨⟨lc, lc'⟩, sc⟩ <;> rw [sa, sc] at fin2 <;>
          · simp [e4, set_get e4, List.set_set, z2, -e_newK, -addP_loc, -e_lstO, -listP_ap, -slP_loc, -revP_loc, -e_dictM]
            first
              | refine ⟨fun _ => ?_, fun h => absurd h la'⟩
              | refine ⟨fun h => absurd h (by rw [la]; simp), fun _ => ?_⟩
            refine ⟨by omega, ?_⟩
            first
              | refine ⟨fun _ => ?_, fun h => absurd h lc'⟩
              | refine ⟨fun h => absurd h (by rw [lc]; simp), fun _ => ?_⟩
            refine ⟨by omega, ?_⟩
            rw [z1]
            refine nexts_wp d a (m + 1) th _ _ _ pa (by omega) (by omega) (by omega) ?_
            intro l1 S6 e6 k6 g6
            have f6 := k6.get (set_get e4) (by simp)
            simp [-e_newK, -addP_loc, -e_lstO, -listP_ap, -slP_loc, -revP_loc, -e_dictM]
            refine nexts_wp d c m2 th _ _ _ pc (by omega) (by omega) (by omega) ?_
            intro l2 S7 e7 k7 g7
            simp [-e_newK, -addP_loc, -e_lstO, -listP_ap, -slP_loc, -revP_loc, -e_dictM]
            refine addL_wp (k7.get e6 (by simp)) e7 (by simp; omega) ?_
            intro l3 S8 e8 k8 g8
            have f8 := k8.get (k7.get f6 (by simp)) (by simp)
            simp [f8, e8, -e_newK, -addP_loc, -e_lstO, -listP_ap, -slP_loc, -revP_loc, -e_dictM]
            refine ⟨by omega, fin2 _ _ _ _ _ _ ?_ ?_⟩
            · rw [set_get f8]
              simp [pairP]
            · exact ((k2.trans (k3.mono (by simp))).trans (k4.mono (by simp))).trans (((Keep.set (by simp)).trans (k6.mono (by simp))).trans (((k7.mono (by simp)).trans (k8.mono (by simp))).trans (.set (by simp))))
      refine ⟨fun hlt => ?_, fun hge => ?_⟩
      · have := tail fu (hth1 (by omega))
        simp [-e_newK, -addP_loc, -e_lstO, -listP_ap, -slP_loc, -revP_loc, -e_dictM] at this
        exact this
      · have := tail b (hth2 (by omega))
        simp [-e_newK, -addP_loc, -e_lstO, -listP_ap, -slP_loc, -revP_loc, -e_dictM] at this
        exact this
    · rintro τ S2 ⟨done, x4, x5, x6, x7, x8, hn, rfl, e2, k2⟩
      refine ⟨by simp, ?_⟩
      simp [-e_newK, -addP_loc, -e_lstO, -listP_ap, -slP_loc, -revP_loc, -e_dictM]
      simp [nexts] at hn
      exact h f S2 (by rw [hn]; exact e2) (by (repeat (first | exact Keep.refl | refine Keep.step ?_ (by assumption) (by first | (simp; done) | (intro x hx hlt; simp at hx ⊢; omega))))) g1
end K15
namespace K15
open PySem PySem.Spec PyProof.Rows L2 PL
/-- a row's word in the tables -/
def wordR : Rw → Str
  | .iff _ _ _ => Str.ofString "asks"
  | .give _ => Str.ofString "gives"
  | .send _ => Str.ofString "sends"
  | .set _ _ => Str.ofString "sets"
def numP (p : Rw × Nat) : PV := .tup [.int ((p.2 + 1 : Nat) : Int), p.1.pv]
theorem numbered_wp {rs : List Rw} {S : Sto} {P : PV → Sto → Prop} {R : Str → PV → Sto → Prop} (hd : Rw.deps rs < 6) (hl : (Rw.eachs rs).length ≤ 1000) (h : ∀ l S', S'[l]? = some (.lst ((Rw.eachs rs).zipIdx.map numP)) → Keep [] S S' → S.length ≤ l → P (.loc l) S') :
    wp (m_numbered [.tup (Rw.pvs rs)] S) P R := by
  unfold m_numbered
  rw [callS_wp]
  simp [startE, -e_newK, -addP_loc, -e_lstO, -listP_ap, -slP_loc, -revP_loc, -e_dictM]
  refine each_row_wp 6 rs S _ _ hd hl ?_
  intro n S1 e1 k1 g1
  simp [e1, -e_newK, -addP_loc, -e_lstO, -listP_ap, -slP_loc, -revP_loc, -e_dictM]
  rw [pvs_map] at e1 ⊢
  refine accE_map Rw.pv (fun i r => numP (r, i)) (by intro p hp; simp at hp; subst hp; exact e1) (by omega) ?_ ?_
  · intro i x hx acc J ha hJ
    refine ⟨_, rfl, ?_⟩
    simp [wipeE, stepE_wp, ha, -e_newK, -addP_loc, -e_lstO, -listP_ap, -slP_loc, -revP_loc, -e_dictM]
    have : ((i : Nat) : Int) + 1 = ((i + 1 : Nat) : Int) := by omega
    rw [this]
    exact hJ
  · refine new_wp ?_
    intro l S2 e2 k2 g2
    have lk2 := k2.1
    exact h l S2 e2 (by (repeat (first | exact Keep.refl | refine Keep.step ?_ (by assumption) (by first | (simp; done) | (intro x hx hlt; simp at hx ⊢; omega))))) (Nat.le_trans k1.1 g2)
theorem facts_of_row_wp {q : Rw} {title : Str} {n : Int} {S : Sto} {P : PV → Sto → Prop} {R : Str → PV → Sto → Prop} (hq : Plain q) (h : ∀ l S', S'[l]? = some (.lst [.tup [.str (wordR q), .str title, .int n, .str sA]]) → Keep [] S S' → S.length ≤ l → P (.loc l) S') :
    wp (m_facts_of_row [.str title, .int n, q.pv] S) P R := by
  unfold m_facts_of_row
  rw [callS_wp]
  simp [startE, -e_newK, -addP_loc, -e_lstO, -listP_ap, -slP_loc, -revP_loc, -e_dictM]
  cases q with
  | set x v => exact hq.elim
  | give x =>
    cases (show x = sA from hq)
    simp [Rw.pv, es_NAMED, List.lookup, -e_newK, -addP_loc, -e_lstO, -listP_ap, -slP_loc, -revP_loc, -e_dictM]
    refine lst_wp (by simp) ?_
    intro l S1 e1 k1 g1
    have lk1 := k1.1
    exact h l S1 e1 k1 g1
  | send x =>
    cases (show x = sA from hq)
    simp [Rw.pv, es_NAMED, List.lookup, -e_newK, -addP_loc, -e_lstO, -listP_ap, -slP_loc, -revP_loc, -e_dictM]
    refine lst_wp (by simp) ?_
    intro l S1 e1 k1 g1
    have lk1 := k1.1
    exact h l S1 e1 k1 g1
  | iff x a b =>
    cases (show x = sA from hq.1)
    simp [Rw.pv, es_NAMED, List.lookup, -e_newK, -addP_loc, -e_lstO, -listP_ap, -slP_loc, -revP_loc, -e_dictM]
    refine lst_wp (by simp) ?_
    intro l S1 e1 k1 g1
    have lk1 := k1.1
    exact h l S1 e1 k1 g1
theorem definitions_wp {ds : List Df} {pl : Nat} {S : Sto} {P : PV → Sto → Prop} {R : Str → PV → Sto → Prop} (hp : PrgAt pl ds S) (h : ∀ n S', S'[n]? = some (.lst (ds.map Df.pv)) → Keep [] S S' → S.length ≤ n → P (.loc n) S') : wp (m_Program_definitions [.loc pl] S) P R := by
  obtain ⟨n, h1, h2⟩ := hp
  unfold m_Program_definitions
  rw [callS_wp]
  simp [startE, h1, List.lookup, -e_newK, -addP_loc, -e_lstO, -listP_ap, -slP_loc, -revP_loc, -e_dictM]
  refine list_wp (xs := ds.map Df.pv) (by simp [h2]) ?_
  intro m S1 e1 k1 g1
  have lk1 := k1.1
  simp
  exact h m S1 e1 k1 g1
/-- the facts of a definition -/
def nxtK (t : Str) (p : Nat × Nat) : TK := [.inr (Str.ofString "next"), .inr t, .inl (p.1 : Nat), .inl (p.2 : Nat)]
def tkK (t : Str) (p : Str × Nat) : TK := [.inr (Str.ofString "takes"), .inr t, .inl (p.2 : Nat), .inr p.1]
def rowK (t : Str) (p : Rw × Nat) : TK := [.inr (wordR p.1), .inr t, .inl ((p.2 + 1 : Nat) : Int), .inr sA]
def factsD (d : Df) : List TK := d.2.1.zipIdx.map (tkK d.1) ++ [nxtK d.1 (0, min 1 d.2.2.length)] ++ (nexts d.2.2 1 0).map (nxtK d.1) ++ (Rw.eachs d.2.2).zipIdx.map (rowK d.1)
def factsOf (ds : List Df) : List TK := ds.flatMap factsD
structure Small (ds : List Df) : Prop where
  len : ds.length ≤ 2
  pl : ∀ d ∈ ds, Plains d.2.2
  dep : ∀ d ∈ ds, Rw.deps d.2.2 ≤ 4
  cnt : ∀ d ∈ ds, (Rw.eachs d.2.2).length ≤ 30
  par : ∀ d ∈ ds, d.2.1.length ≤ 4
theorem factsD_len {d : Df} (hc : (Rw.eachs d.2.2).length ≤ 30) (hp : d.2.1.length ≤ 4) : (factsD d).length ≤ 95 := by
  have := len_nexts d.2.2 1 0
  simp [factsD]; omega
theorem nxt_pv (t : Str) (p : Nat × Nat) : tupT (nxtK t p) = .tup [.str (Str.ofString "next"), .str t, .int (p.1 : Nat), .int (p.2 : Nat)] := rfl
theorem tk_pv (t : Str) (p : Str × Nat) : tupT (tkK t p) = .tup [.str (Str.ofString "takes"), .str t, .int (p.2 : Nat), .str p.1] := rfl
theorem row_pv (t : Str) (p : Rw × Nat) : tupT (rowK t p) = .tup [.str (wordR p.1), .str t, .int ((p.2 + 1 : Nat) : Int), .str sA] := rfl
theorem facts_len {ds : List Df} (z : Small ds) : (factsOf ds).length ≤ ds.length * 95 := len_flatMap_le fun d hd => factsD_len (z.cnt d hd) (z.par d hd)
mutual
theorem plain_each1 : ∀ (r : Rw), Plain r → ∀ q ∈ r.each, Plain q
  | .set _ _, h, _, _ => h.elim
  | .send _, h, q, hq => by simp [Rw.each] at hq; subst hq; exact h
  | .give _, h, q, hq => by simp [Rw.each] at hq; subst hq; exact h
  | .iff x a b, h, q, hq => by
    simp only [Rw.each, List.mem_cons, List.mem_append] at hq
    rcases hq with rfl | hq | hq
    · exact h
    · exact plain_each a h.2.1 q hq
    · exact plain_each b h.2.2 q hq
theorem plain_each : ∀ (rs : List Rw), Plains rs → ∀ q ∈ Rw.eachs rs, Plain q
  | [], _, q, hq => by simp [Rw.eachs] at hq
  | r :: rs, h, q, hq => by
    simp only [Rw.eachs, List.mem_append] at hq
    rcases hq with hq | hq
    · exact plain_each1 r h.1 q hq
    · exact plain_each rs h.2 q hq
end
theorem tables_wp {ds : List Df} {pl : Nat} {S : Sto} {P : PV → Sto → Prop} {R : Str → PV → Sto → Prop} (hp : PrgAt pl ds S) (z : Small ds) (ok : SrtOk (factsOf ds))
    (h : ∀ n S', S'[n]? = some (.lst ((sortT (dedupT (factsOf ds))).map tupT)) → Keep [] S S' → S.length ≤ n → P (.loc n) S') : wp (m_tables [.loc pl] S) P R := by
  unfold m_tables
  rw [callS_wp]
  simp [startE, -e_newK, -addP_loc, -e_lstO, -listP_ap, -slP_loc, -revP_loc, -e_dictM]
  refine lst_wp (by simp) ?_
  intro f S1 e1 k1 g1
  have lk1 := k1.1
  obtain ⟨n0, q1, q2⟩ := hp.keep k1
  simp [q1, List.lookup, -e_newK, -addP_loc, -e_lstO, -listP_ap, -slP_loc, -revP_loc, -e_dictM]
  refine definitions_wp ⟨n0, q1, q2⟩ ?_
  intro dl S2 e2 k2 g2
  have lk2 := k2.1
  simp [e2, -e_newK, -addP_loc, -e_lstO, -listP_ap, -slP_loc, -revP_loc, -e_dictM]
  have lf := lt_of_get e1
  refine forM_wp Df.pv (fun done τ S' => ∃ (x2 x3 x4 x5 x6 x7 x8 x9 x10 : Option PV), τ = [some (.loc pl), some (.loc f), x2, x3, x4, x5, x6, x7, x8, x9, x10] ∧ S'[f]? = some (.lst ((factsOf done).map tupT)) ∧ S'[dl]? = some (.lst (ds.map Df.pv)) ∧ Keep [f] S2 S')
    ?_ ?_ ?_
  · exact ⟨_, _, _, _, _, _, _, _, _, rfl, by have : S2[f]? = some (.lst []) := by (repeat' (first | assumption | refine Keep.get (by assumption) ?_ (by first | (simp; done) | (simp; omega))))
                                              simpa [factsOf] using this, e2, .refl⟩
  · rintro done d rest τ S3 J hds ⟨x2, x3, x4, x5, x6, x7, x8, x9, x10, rfl, e3, e4, k3⟩ hJ
    have hd : d ∈ ds := by rw [hds]; simp
    refine ⟨by intro p hp; simp at hp; subst hp; exact e4, _, rfl, ?_⟩
    obtain ⟨t, ps, rs⟩ := d
    have zp := z.pl _ hd
    have zd := z.dep _ hd
    have zc := z.cnt _ hd
    have zq := z.par _ hd
    simp only at zp zd zc zq
    have hlen : (factsOf done).length ≤ 190 := by
      have h1 : (factsOf done).length ≤ done.length * 95 := len_flatMap_le fun d hd' => factsD_len (z.cnt d (by rw [hds]; simp [hd'])) (z.par d (by rw [hds]; simp [hd']))
      have := z.len
      rw [hds] at this
      simp at this; omega
    have hnl := len_nexts rs 1 0
    have lf3 := lt_of_get e3
    have ld3 := lt_of_get e4
    have nfd : dl ≠ f := by omega
    simp [e3, stL, -e_newK, -addP_loc, -e_lstO, -listP_ap, -slP_loc, -revP_loc, -e_dictM]
    refine accE_map PV.str (fun i x => tupT (tkK t (x, i))) (by intro p hp; simp at hp) (by omega) ?_ ?_
    · intro i x hx acc J ha hJ
      refine ⟨_, rfl, ?_⟩
      simp [wipeE, stepE_wp, ha, -e_newK, -addP_loc, -e_lstO, -listP_ap, -slP_loc, -revP_loc, -e_dictM]
      exact hJ
    refine new_wp ?_
    intro a S4 e5 k5 g5
    have lk5 := k5.1
    have e35 : S4[f]? = some (.lst ((factsOf done).map tupT)) := by (repeat' (first | assumption | refine Keep.get (by assumption) ?_ (by first | (simp; done) | (simp; omega))))
    have e45 : S4[dl]? = some (.lst (ds.map Df.pv)) := by (repeat' (first | assumption | refine Keep.get (by assumption) ?_ (by first | (simp; done) | (simp; omega))))
    have hpl : (Rw.pvs rs).length = rs.length := by rw [pvs_map]; simp
    simp [e35, e5, set_get e35, List.set_set, hpl, -e_newK, -addP_loc, -e_lstO, -listP_ap, -slP_loc, -revP_loc, -e_dictM]
    refine ⟨by omega, by omega, ?_⟩
    have hmin : (if (rs.length : Int) < 1 then (rs.length : Int) else 1) = ((min 1 rs.length : Nat) : Int) := by split <;> omega
    rw [hmin]
    have hT1 : ((factsOf done).map tupT ++ (ps.zipIdx.map (fun p => tupT (tkK t (p.1, p.2))) ++ [.tup [.str (Str.ofString "next"), .str t, .int 0, .int ((min 1 rs.length : Nat) : Int)]])) = (factsOf done ++ (ps.zipIdx.map (tkK t) ++ [nxtK t (0, min 1 rs.length)])).map tupT := by
      simp [nxt_pv]
    rw [hT1]
    generalize hT : factsOf done ++ (ps.zipIdx.map (tkK t) ++ [nxtK t (0, min 1 rs.length)]) = T1
    have lT1 : T1.length ≤ 190 + 5 := by rw [← hT]; simp; omega
    have k6 : Keep [f] S4 (S4.set f (.lst (T1.map tupT))) := .set (by simp)
    have e6 := set_get (o := .lst (T1.map tupT)) e35
    have d6 : (S4.set f (.lst (T1.map tupT)))[dl]? = some (.lst (ds.map Df.pv)) := by rw [List.getElem?_set_ne (by omega)]; exact e45
    generalize S4.set f (.lst (T1.map tupT)) = S6 at *
    refine nexts_wp 6 rs 1 0 S6 _ _ zp (by omega) (by omega) (by omega) ?_
    intro c S7 e7 k7 g7
    have lk7 := k7.1
    simp [e7, -e_newK, -addP_loc, -e_lstO, -listP_ap, -slP_loc, -revP_loc, -e_dictM]
    refine acc_map pairP (fun p => tupT (nxtK t p)) (by intro p hp; simp at hp; subst hp; exact e7) (by simp; omega) ?_ ?_
    · intro p hp acc J ha hJ
      refine ⟨_, rfl, ?_⟩
      simp [wipeE, stepE_wp, ha, -e_newK, -addP_loc, -e_lstO, -listP_ap, -slP_loc, -revP_loc, -e_dictM]
      exact hJ
    refine new_wp ?_
    intro c2 S8 e8 k8 g8
    have lk8 := k8.1
    have f8 : S8[f]? = some (.lst (T1.map tupT)) := by (repeat' (first | assumption | refine Keep.get (by assumption) ?_ (by first | (simp; done) | (simp; omega))))
    have d8 : S8[dl]? = some (.lst (ds.map Df.pv)) := by (repeat' (first | assumption | refine Keep.get (by assumption) ?_ (by first | (simp; done) | (simp; omega))))
    simp [f8, e8, -e_newK, -addP_loc, -e_lstO, -listP_ap, -slP_loc, -revP_loc, -e_dictM]
    refine ⟨by omega, ?_⟩
    have hT2 : T1.map tupT ++ (nexts rs 1 0).map (fun p => tupT (nxtK t p)) = (T1 ++ (nexts rs 1 0).map (nxtK t)).map tupT := by simp
    rw [hT2]
    generalize hT' : T1 ++ (nexts rs 1 0).map (nxtK t) = T2
    have lT2 : T2.length ≤ 195 + 60 := by rw [← hT']; simp; omega
    have k9 : Keep [f] S8 (S8.set f (.lst (T2.map tupT))) := .set (by simp)
    have e9 := set_get (o := .lst (T2.map tupT)) f8
    have d9 : (S8.set f (.lst (T2.map tupT)))[dl]? = some (.lst (ds.map Df.pv)) := by rw [List.getElem?_set_ne (by omega)]; exact d8
    generalize S8.set f (.lst (T2.map tupT)) = S9 at *
    refine numbered_wp (by omega) (by omega) ?_
    intro nl S10 e10 k10 g10
    have lk10 := k10.1
    have f10 : S10[f]? = some (.lst (T2.map tupT)) := by (repeat' (first | assumption | refine Keep.get (by assumption) ?_ (by first | (simp; done) | (simp; omega))))
    have d10 : S10[dl]? = some (.lst (ds.map Df.pv)) := by (repeat' (first | assumption | refine Keep.get (by assumption) ?_ (by first | (simp; done) | (simp; omega))))
    have lf9 := lt_of_get e9
    have ld9 := lt_of_get d9
    simp [e10, -e_newK, -addP_loc, -e_lstO, -listP_ap, -slP_loc, -revP_loc, -e_dictM]
    refine forM_wp numP (fun dn τ S' => ∃ (x5 x6 : Option PV), τ = [some (.loc pl), some (.loc f), some (.str t), some (.tup (ps.map PV.str)), some (.tup (Rw.pvs rs)), x5, x6, x7, x8, x9, x10] ∧ S'[f]? = some (.lst ((T2 ++ dn.map (rowK t)).map tupT)) ∧ Keep [f] S10 S')
      ?_ ?_ ?_
    · exact ⟨x5, x6, rfl, by simpa using f10, .refl⟩
    · rintro dn q rest' τ S11 J' hq ⟨y5, y6, rfl, e11, k11⟩ hJ'
      have n11 : S11[nl]? = some (.lst ((Rw.eachs rs).zipIdx.map numP)) := by (repeat' (first | assumption | refine Keep.get (by assumption) ?_ (by first | (simp; done) | (simp; omega))))
      have hqm : q ∈ (Rw.eachs rs).zipIdx := by rw [hq]; simp
      have hdn : dn.length ≤ 30 := by
        have := congrArg List.length hq
        simp at this; omega
      have hq1 : q.1 ∈ Rw.eachs rs := by
        have := List.fst_mem_of_mem_zipIdx hqm
        exact this
      refine ⟨by intro p hp; simp at hp; subst hp; exact n11, _, rfl, ?_⟩
      simp [e11, -e_newK, -addP_loc, -e_lstO, -listP_ap, -slP_loc, -revP_loc, -e_dictM]
      refine facts_of_row_wp (plain_each rs zp q.1 hq1) ?_
      intro fl S12 e12 k12 g12
      have lk12 := k12.1
      have f12 : S12[f]? = some (.lst ((T2 ++ dn.map (rowK t)).map tupT)) := by (repeat' (first | assumption | refine Keep.get (by assumption) ?_ (by first | (simp; done) | (simp; omega))))
      simp [f12, e12, -e_newK, -addP_loc, -e_lstO, -listP_ap, -slP_loc, -revP_loc, -e_dictM]
      refine ⟨by omega, ?_⟩
      refine hJ' _ _ ⟨_, _, rfl, ?_, (k11.trans (k12.mono (by simp))).trans (.set (by simp))⟩
      rw [set_get f12]
      simp [row_pv]
    · rintro τ S11 ⟨y5, y6, rfl, e11, k11⟩
      have n11 : S11[nl]? = some (.lst ((Rw.eachs rs).zipIdx.map numP)) := by (repeat' (first | assumption | refine Keep.get (by assumption) ?_ (by first | (simp; done) | (simp; omega))))
      refine ⟨by intro p hp; simp at hp; subst hp; exact n11, ?_⟩
      refine hJ _ _ ⟨_, _, _, _, _, _, _, _, _, rfl, ?_, by (repeat' (first | assumption | refine Keep.get (by assumption) ?_ (by first | (simp; done) | (simp; omega)))), ?_⟩
      · rw [e11, ← hT', ← hT]
        simp [factsOf, factsD]
      · (repeat (first | exact Keep.refl | refine Keep.step ?_ (by assumption) (by first | (simp; done) | (intro x hx hlt; simp at hx ⊢; omega))))
  · rintro τ S3 ⟨x2, x3, x4, x5, x6, x7, x8, x9, x10, rfl, e3, e4, k3⟩
    refine ⟨by intro p hp; simp at hp; subst hp; exact e4, ?_⟩
    simp [-e_newK, -addP_loc, -e_lstO, -listP_ap, -slP_loc, -revP_loc, -e_dictM]
    refine sortSet_wp e3 (by have := facts_len z; have := z.len; omega) ok ?_
    intro n S4 e5 k5 g5
    have lk5 := k5.1
    simp [-e_newK, -addP_loc, -e_lstO, -listP_ap, -slP_loc, -revP_loc, -e_dictM]
    exact h n S4 e5 (by (repeat (first | exact Keep.refl | refine Keep.step ?_ (by assumption) (by first | (simp; done) | (intro x hx hlt; simp at hx ⊢; omega))))) (by have := k3.1; omega)
end K15
namespace K15
open PySem PySem.Spec PyProof.Rows L2 PL PLs
/-! ### the plain law -/
def dueD (d : Df) : List TK := (backs d.2.2 1 0 ++ [(0, startN d.2.2 1 0)]).map (nxtK d.1)
def dueOf' (ds : List Df) : List TK := ds.flatMap dueD
def isNext (k : TK) : Bool := decide (k.head? = some (.inr (Str.ofString "next")))
theorem start_min (rs : List Rw) : startN rs 1 0 = min 1 rs.length := by
  cases rs with
  | nil => rfl
  | cons r rs => simp [startN]
theorem word_ne (q : Rw) : wordR q ≠ Str.ofString "next" := by cases q <;> simp [wordR]
theorem facts_form {ds : List Df} {k : TK} (h : k ∈ factsOf ds) : (∃ t a b, k = [.inr (Str.ofString "next"), .inr t, .inl a, .inl b]) ∨ ∃ w t a x, w ≠ Str.ofString "next" ∧ k = [.inr w, .inr t, .inl a, .inr x] := by
  obtain ⟨d, hd, h⟩ := List.mem_flatMap.mp h
  simp only [factsD, List.mem_append, List.mem_map, List.mem_singleton] at h
  rcases h with ((⟨p, _, rfl⟩ | rfl) | ⟨p, _, rfl⟩) | ⟨p, _, rfl⟩
  · exact .inr ⟨_, _, _, _, by simp, rfl⟩
  · exact .inl ⟨_, _, _, rfl⟩
  · exact .inl ⟨_, _, _, rfl⟩
  · exact .inr ⟨_, _, _, _, word_ne p.1, rfl⟩
theorem form_ok {ks : List TK} (h : ∀ k ∈ ks, (∃ t a b, k = [.inr (Str.ofString "next"), .inr t, .inl a, .inl b]) ∨ ∃ w t a x, w ≠ Str.ofString "next" ∧ k = [.inr w, .inr t, .inl a, .inr x]) : SrtOk ks := by
  refine ⟨⟨true, fun k hk => ?_⟩, fun k hk k' hk' => ?_⟩
  · rcases h k hk with ⟨t, a, b, rfl⟩ | ⟨w, t, a, x, _, rfl⟩ <;> rfl
  · rcases h k hk with ⟨t, a, b, rfl⟩ | ⟨w, t, a, x, hw, rfl⟩ <;> rcases h k' hk' with ⟨t', a', b', rfl⟩ | ⟨w', t', a', x', hw', rfl⟩
    · intro _ _ _ _; trivial
    · intro e; exact absurd e.symm hw'
    · intro e; exact absurd e hw
    · intro _ _ _ _; trivial
theorem due_form {ds : List Df} {k : TK} (h : k ∈ dueOf' ds) : ∃ t a b, k = [.inr (Str.ofString "next"), .inr t, .inl a, .inl b] := by
  obtain ⟨d, hd, h⟩ := List.mem_flatMap.mp h
  obtain ⟨p, _, rfl⟩ := List.mem_map.mp h
  exact ⟨_, _, _, rfl⟩
theorem next_due {ds : List Df} (z : Small ds) : (sortT (dedupT (factsOf ds))).filter isNext = sortT (dedupT (dueOf' ds)) := by
  refine set_uniq ((sortT_asc _).filter _) ((nodup_sortset _).filter _) fun x => ?_
  rw [List.mem_filter, mem_sortset]
  constructor
  · rintro ⟨hx, hn⟩
    obtain ⟨d, hd, h⟩ := List.mem_flatMap.mp hx
    refine List.mem_flatMap.mpr ⟨d, hd, ?_⟩
    simp only [factsD, List.mem_append, List.mem_map, List.mem_singleton] at h
    rcases h with ((⟨p, _, rfl⟩ | rfl) | ⟨p, hp, rfl⟩) | ⟨p, _, rfl⟩
    · simp [isNext, tkK] at hn
    · exact List.mem_map.mpr ⟨(0, startN d.2.2 1 0), by simp, by rw [start_min]⟩
    · exact List.mem_map.mpr ⟨p, List.mem_append_left _ ((sames p d.2.2 1 0 (z.pl d hd)).mp hp), rfl⟩
    · have := word_ne p.1
      simp [isNext, rowK, this] at hn
  · intro hx
    obtain ⟨d, hd, h⟩ := List.mem_flatMap.mp hx
    obtain ⟨p, hp, rfl⟩ := List.mem_map.mp h
    refine ⟨List.mem_flatMap.mpr ⟨d, hd, ?_⟩, by simp [isNext, nxtK]⟩
    rcases List.mem_append.mp hp with hp | hp
    · exact List.mem_append_left _ (List.mem_append_right _ (List.mem_map.mpr ⟨p, (sames p d.2.2 1 0 (z.pl d hd)).mpr hp, rfl⟩))
    · rw [List.mem_singleton.mp hp, start_min]
      simp [factsD]
theorem due_len {ds : List Df} (z : Small ds) : (dueOf' ds).length ≤ ds.length * 61 := len_flatMap_le fun d hd => by
  have := len_backs d.2.2 1 0
  have := z.cnt d hd
  simp [dueD]; omega
mutual
theorem plain_ok (hs : List Hd) : ∀ (r : Rw), Plain r → r.ok [sA] hs
  | .set _ _, h => h.elim
  | .send x, h => by cases (show x = sA from h); simp [Rw.ok]
  | .give x, h => by cases (show x = sA from h); simp [Rw.ok]
  | .iff x a b, h => by
    cases (show x = sA from h.1)
    exact ⟨by simp, plains_ok hs a h.2.1, plains_ok hs b h.2.2⟩
theorem plains_ok (hs : List Hd) : ∀ (rs : List Rw), Plains rs → Rw.oks [sA] hs rs
  | [], _ => trivial
  | r :: rs, h => ⟨plain_ok hs r h.1, plains_ok hs rs h.2⟩
end
theorem nm_main' : Nm (Str.ofString "main") := ⟨by unfold Lw; decide +kernel, by decide +kernel, by decide +kernel⟩
theorem nm_b : Nm (Str.ofString "b") := ⟨by unfold Lw; decide +kernel, by decide +kernel, by decide +kernel⟩
theorem nm_a : Nm sA := ⟨by unfold Lw; decide +kernel, by decide +kernel, by decide +kernel⟩
theorem two_ok {rs1 rs2 : List Rw} (p1 : Plains rs1) (p2 : Plains rs2) (d1 : Rw.deps rs1 ≤ 4) (d2 : Rw.deps rs2 ≤ 4) (c1 : (Rw.eachs rs1).length ≤ 30) (c2 : (Rw.eachs rs2).length ≤ 30) {ds : List Df}
    (h : ds = [(Str.ofString "main", [], rs1), (Str.ofString "b", [sA], rs2)] ∨ ds = [(Str.ofString "b", [sA], rs2), (Str.ofString "main", [], rs1)]) :
    Small ds ∧ Prg ds ∧ ∀ d ∈ ds, d.1.cps.all (· < 0x110000) = true := by
  have ne : (Str.ofString "main" : Str) ≠ Str.ofString "b" := by decide
  have f1 : (Str.ofString "main").cps.all (· < 0x110000) = true := by decide +kernel
  have f2 : (Str.ofString "b").cps.all (· < 0x110000) = true := by decide +kernel
  rcases h with rfl | rfl
  · refine ⟨⟨by simp, by simp [p1, p2], by simp [d1, d2], by simp [c1, c2], by simp⟩, ⟨⟨?_, ?_, ?_, ?_, ?_, ?_, ?_⟩, ?_, ?_, ?_⟩, ?_⟩
    · simp [Df.hd, ne]
    · intro h hh; simp [Df.hd] at hh; rcases hh with rfl | rfl <;> first | exact nm_main' | exact nm_b
    · intro h hh; simp [Df.hd] at hh; rcases hh with rfl | rfl <;> simp
    · intro h hh; simp [Df.hd] at hh; rcases hh with rfl | rfl <;> simp [nm_a]
    · intro h hh; simp [Df.hd] at hh; rcases hh with rfl | rfl <;> simp
    · simp [Df.hd]
    · simp
    · intro d hd; refine ⟨[sA], by simp [nm_a], plains_ok _ _ ?_⟩; simp at hd; rcases hd with rfl | rfl <;> assumption
    · intro d hd; simp at hd; rcases hd with rfl | rfl <;> simp only <;> omega
    · intro d hd; simp at hd; rcases hd with rfl | rfl <;> simp only <;> omega
    · intro d hd; simp at hd; rcases hd with rfl | rfl <;> assumption
  · refine ⟨⟨by simp, by simp [p1, p2], by simp [d1, d2], by simp [c1, c2], by simp⟩, ⟨⟨?_, ?_, ?_, ?_, ?_, ?_, ?_⟩, ?_, ?_, ?_⟩, ?_⟩
    · simp [Df.hd, ne.symm]
    · intro h hh; simp [Df.hd] at hh; rcases hh with rfl | rfl <;> first | exact nm_main' | exact nm_b
    · intro h hh; simp [Df.hd] at hh; rcases hh with rfl | rfl <;> simp
    · intro h hh; simp [Df.hd] at hh; rcases hh with rfl | rfl <;> simp [nm_a]
    · intro h hh; simp [Df.hd] at hh; rcases hh with rfl | rfl <;> simp
    · simp [Df.hd]
    · simp
    · intro d hd; refine ⟨[sA], by simp [nm_a], plains_ok _ _ ?_⟩; simp at hd; rcases hd with rfl | rfl <;> assumption
    · intro d hd; simp at hd; rcases hd with rfl | rfl <;> simp only <;> omega
    · intro d hd; simp at hd; rcases hd with rfl | rfl <;> simp only <;> omega
    · intro d hd; simp at hd; rcases hd with rfl | rfl <;> assumption
theorem due_plain {ds : List Df} (h : ∀ d ∈ ds, d.1.cps.all (· < 0x110000) = true) : PlL 1 ((sortT (dedupT (dueOf' ds))).map tupT) := PlL_iff.mpr fun x hx => by
  obtain ⟨k, hk, rfl⟩ := List.mem_map.mp hx
  obtain ⟨d, hd, hk⟩ := List.mem_flatMap.mp (mem_sortset.mp hk)
  obtain ⟨p, _, rfl⟩ := List.mem_map.mp hk
  have f0 : (Str.ofString "next").cps.all (· < 0x110000) = true := by decide +kernel
  rw [nxt_pv]
  exact ⟨f0, h d hd, trivial, trivial, trivial⟩
theorem dedup_len : ∀ ks : List TK, (dedupT ks).length ≤ ks.length
  | [] => by simp [dedupT]
  | k :: ks => by
    have := dedup_len ks
    simp only [dedupT]
    split <;> simp <;> omega
theorem sortset_len (ks : List TK) : (sortT (dedupT ks)).length ≤ ks.length := by rw [(sortT_perm _).length_eq]; exact dedup_len ks
theorem main : LawMain 63 m_law := by
  intro ns hn
  unfold m_law
  rw [callS_wp]
  simp [startE, -e_newK, -addP_loc, -e_lstO, -listP_ap, -slP_loc, -revP_loc, -e_dictM]
  refine deck_wp hn ?_
  intro t g S T
  simp [-e_newK, -addP_loc, -e_lstO, -listP_ap, -slP_loc, -revP_loc, -e_dictM]
  have hN : (4 + if (ns.length : Int) < 12 then (ns.length : Int) else 12) = ((4 + min 12 ns.length : Nat) : Int) := by split <;> omega
  rw [hN]
  refine ⟨by unfold rngOk; omega, ?_⟩
  refine forR_wp (fun i τ S' => (∃ x2 x3 x4 x5 x6 x7 x8 x9 x10 x11 x12, τ = [some (.fls (ns.map PV.int)), some (.loc t), x2, x3, x4, x5, x6, x7, x8, x9, x10, x11, x12]) ∧ Deck t g (70000 * i) S') ⟨⟨_, _, _, _, _, _, _, _, _, _, _, rfl⟩, T⟩ ?_ ?_
  · rintro i τ S1 J hi ⟨⟨x2, x3, x4, x5, x6, x7, x8, x9, x10, x11, x12, rfl⟩, T1⟩ hJ
    refine ⟨by simp, _, rfl, ?_⟩
    simp [-e_newK, -addP_loc, -e_lstO, -listP_ap, -slP_loc, -revP_loc, -e_dictM]
    have lt1 := T1.lt
    refine lst_wp (by simp) ?_
    intro r1 S2 e2 k2 g2
    have lk2 := k2.1
    simp [-e_newK, -addP_loc, -e_lstO, -listP_ap, -slP_loc, -revP_loc, -e_dictM]
    refine block_wp 5 1 r1 30 _ S2 _ _ (T1.keep k2 (by simp) (by simp)) (by omega) (by decide) (by decide) (by decide) e2 (by omega) (by omega) ?_
    intro rs1 ro1 S3 a1 a2 a3 e3 T3 k3
    have lt3 := T3.lt
    simp [-e_newK, -addP_loc, -e_lstO, -listP_ap, -slP_loc, -revP_loc, -e_dictM]
    refine lst_wp (by simp) ?_
    intro r2 S4 e4 k4 g4
    have lk4 := k4.1
    simp [-e_newK, -addP_loc, -e_lstO, -listP_ap, -slP_loc, -revP_loc, -e_dictM]
    refine block_wp 5 1 r2 30 _ S4 _ _ (T3.keep k4 (by simp) (by simp)) (by omega) (by decide) (by decide) (by decide) e4 (by omega) (by omega) ?_
    intro rs2 ro2 S5 b1 b2 b3 e5 T5 k5
    simp [-e_newK, -addP_loc, -e_lstO, -listP_ap, -slP_loc, -revP_loc, -e_dictM]
    generalize hbase : [((Str.ofString "main", [], rs1) : Df), (Str.ofString "b", [sA], rs2)] = base
    have hbp : [PV.tup [.str (Str.ofString "main"), .tup [], .tup (Rw.pvs rs1)], .tup [.str (Str.ofString "b"), .tup [.str (Str.ofString "a")], .tup (Rw.pvs rs2)]] = base.map Df.pv := by rw [← hbase]; rfl
    rw [hbp]
    refine lst_wp (by rw [← hbase]; simp) ?_
    intro bk S6 e6 k6 g6
    have lk6 := k6.1
    simp [-e_newK, -addP_loc, -e_lstO, -listP_ap, -slP_loc, -revP_loc, -e_dictM]
    refine lst_wp (by simp) ?_
    intro o S7 e7 k7 g7
    have lk7 := k7.1
    have T7 := (T5.keep k6 (by simp) (by simp)).keep k7 (by simp) (by simp)
    have lt5 := T5.lt
    simp [-e_newK, -addP_loc, -e_lstO, -listP_ap, -slP_loc, -revP_loc, -e_dictM]
    refine take_wp T7 (by omega) (by decide) (by decide) ?_
    intro w S8 w0 w1 T8 k8
    have e8 : S8[o]? = some (.lst [.int 1, .int (-1)]) := by (repeat' (first | assumption | refine Keep.get (by assumption) ?_ (by first | (simp; done) | (simp; omega))))
    have b8 : S8[bk]? = some (.lst (base.map Df.pv)) := by (repeat' (first | assumption | refine Keep.get (by assumption) ?_ (by first | (simp; done) | (simp; omega))))
    obtain ⟨k, hk1, hk2⟩ : ∃ k : Int, atI [PV.int 1, PV.int (-1)] w = some (.int k) ∧ (k = 1 ∨ k = -1) := by
      have : w = 0 ∨ w = 1 := by omega
      rcases this with rfl | rfl
      · exact ⟨1, by simp, .inl rfl⟩
      · exact ⟨-1, by simp, .inr rfl⟩
    simp [e8, hk1, -e_newK, -addP_loc, -e_lstO, -listP_ap, -slP_loc, -revP_loc, -e_dictM]
    refine step_wp b8 hk2 ?_
    intro b2' S9 e9 k9 g9
    have lk9 := k9.1
    obtain ⟨ds, e9', z, pg, fa⟩ : ∃ ds : List Df, S9[b2']? = some (.lst (ds.map Df.pv)) ∧ Small ds ∧ Prg ds ∧ ∀ d ∈ ds, d.1.cps.all (· < 0x110000) = true := by
      have q := fun ds h => two_ok (ds := ds) a1 b1 (by omega) (by omega) (by omega) (by omega) h
      rcases hk2 with rfl | rfl
      · exact ⟨base, by simpa using e9, q _ (.inl hbase.symm)⟩
      · exact ⟨base.reverse, by simpa [List.map_reverse] using e9, q _ (.inr (by rw [← hbase]; rfl))⟩
    have T9 := T8.keep k9 (by simp) (by simp)
    have lt8 := T8.lt
    simp [-e_newK, -addP_loc, -e_lstO, -listP_ap, -slP_loc, -revP_loc, -e_dictM]
    refine lst_wp (by simp) ?_
    intro du S10 e10 k10 g10
    have lk10 := k10.1
    have T10 := T9.keep k10 (by simp) (by simp)
    have b10 : S10[b2']? = some (.lst (ds.map Df.pv)) := by (repeat' (first | assumption | refine Keep.get (by assumption) ?_ (by first | (simp; done) | (simp; omega))))
    simp [b10, -e_newK, -addP_loc, -e_lstO, -listP_ap, -slP_loc, -revP_loc, -e_dictM]
    have lt9 := T9.lt
    have lb9 := lt_of_get e9'
    refine forM_wp Df.pv (fun done τ S' => ∃ (du' : Nat) (x5 x6 x7 x8 x9 x10 x11 x12 : Option PV), τ = [some (PV.fls (List.map PV.int ns)), some (PV.loc t), some (PV.int i), some (PV.loc b2'), some (PV.loc du'), x5, x6, x7, x8, x9, x10, x11, x12] ∧ S'[du']? = some (.lst ((dueOf' done).map tupT)) ∧ Keep [] S10 S')
      ?_ ?_ ?_
    · exact ⟨du, x5, x6, x7, x8, x9, x10, x11, x12, rfl, by simpa [dueOf'] using e10, .refl⟩
    · rintro done d rest τ S11 J' hdd ⟨du', y5, y6, y7, y8, y9, y10, y11, y12, rfl, e11, k11⟩ hJ'
      have b11 : S11[b2']? = some (.lst (ds.map Df.pv)) := by (repeat' (first | assumption | refine Keep.get (by assumption) ?_ (by first | (simp; done) | (simp; omega))))
      have hd : d ∈ ds := by rw [hdd]; simp
      have hdl : done.length < 2 := by
        have := congrArg List.length hdd
        have := z.len
        simp at *; omega
      have ldu : (dueOf' done).length ≤ 2 * 61 := by
        have h1 : (dueOf' done).length ≤ done.length * 61 := len_flatMap_le fun d hd => by
          have h1 := len_backs d.2.2 1 0
          have h2 := z.cnt d (by rw [hdd]; simp [hd])
          simp [dueD]; omega
        omega
      obtain ⟨ti, ps, rs⟩ := d
      have zp := z.pl _ hd
      have zd := z.dep _ hd
      have zc := z.cnt _ hd
      simp only at zp zd zc
      refine ⟨by intro p hp; simp at hp; subst hp; exact b11, _, rfl, ?_⟩
      simp [-e_newK, -addP_loc, -e_lstO, -listP_ap, -slP_loc, -revP_loc, -e_dictM]
      refine lst_wp (by simp) ?_
      intro nw S12 e12 k12 g12
      have lk12 := k12.1
      simp [e12, -e_newK, -addP_loc, -e_lstO, -listP_ap, -slP_loc, -revP_loc, -e_dictM]
      refine back_wp 6 rs 1 0 nw [] S12 _ _ zp (by omega) (by omega) e12 (by simp; omega) ?_
      intro S13 e13 k13
      have dl := len_backs rs 1 0
      have ld11 := lt_of_get e11
      have lb11 := lt_of_get b11
      have lw12 := lt_of_get e12
      simp [e13, -e_newK, -addP_loc, -e_lstO, -listP_ap, -slP_loc, -revP_loc, -e_dictM]
      refine ⟨by omega, ?_⟩
      have hT : (backs rs 1 0).map pairP ++ [PV.tup [.int 0, .int (startN rs 1 0 : Nat)]] = (backs rs 1 0 ++ [(0, startN rs 1 0)]).map pairP := by simp [pairP]
      have hT' : ([] : List PV) ++ ((backs rs 1 0).map pairP ++ [PV.tup [.int 0, .int (startN rs 1 0 : Nat)]]) = (backs rs 1 0 ++ [(0, startN rs 1 0)]).map pairP := by simp [pairP]
      try rw [hT]
      generalize hT2 : backs rs 1 0 ++ [(0, startN rs 1 0)] = T2
      have lT2 : T2.length ≤ 61 := by rw [← hT2]; simp; omega
      have k14 : Keep [nw] S13 (S13.set nw (.lst (T2.map pairP))) := .set (by simp)
      have e14 := set_get (o := .lst (T2.map pairP)) e13
      generalize S13.set nw (.lst (T2.map pairP)) = S14 at *
      have d14 : S14[du']? = some (.lst ((dueOf' done).map tupT)) := by (repeat' (first | assumption | refine Keep.get (by assumption) ?_ (by first | (simp; done) | (simp; omega))))
      have b14 : S14[b2']? = some (.lst (ds.map Df.pv)) := by (repeat' (first | assumption | refine Keep.get (by assumption) ?_ (by first | (simp; done) | (simp; omega))))
      simp [d14, e14, -e_newK, -addP_loc, -e_lstO, -listP_ap, -slP_loc, -revP_loc, -e_dictM]
      refine acc_map pairP (fun p => tupT (nxtK ti p)) (by intro p hp; simp at hp; subst hp; exact e14) (by simp; omega) ?_ ?_
      · intro p hp acc J ha hJ
        refine ⟨_, rfl, ?_⟩
        simp [wipeE, stepE_wp, ha, -e_newK, -addP_loc, -e_lstO, -listP_ap, -slP_loc, -revP_loc, -e_dictM]
        exact hJ
      refine new_wp ?_
      intro cl S15 e15 k15 g15
      have lk15 := k15.1
      have d15 : S15[du']? = some (.lst ((dueOf' done).map tupT)) := by (repeat' (first | assumption | refine Keep.get (by assumption) ?_ (by first | (simp; done) | (simp; omega))))
      simp [-e_newK, -addP_loc, -e_lstO, -listP_ap, -slP_loc, -revP_loc, -e_dictM]
      refine addL_wp d15 e15 (by simp; omega) ?_
      intro du2 S16 e16 k16 g16
      have lk16 := k16.1
      simp [-e_newK, -addP_loc, -e_lstO, -listP_ap, -slP_loc, -revP_loc, -e_dictM]
      have kA : Keep [] S11 S14 := k12.step (k13.trans k14) (by intro x hx hlt; simp at hx; omega)
      refine hJ' _ _ ⟨du2, _, _, _, _, _, _, _, _, rfl, ?_, by (repeat (first | exact Keep.refl | refine Keep.step ?_ (by assumption) (by first | (simp; done) | (intro x hx hlt; simp at hx ⊢; omega))))⟩
      rw [e16, ← hT2]
      simp [dueOf', dueD]
    · rintro τ S11 ⟨du', y5, y6, y7, y8, y9, y10, y11, y12, rfl, e11, k11⟩
      have b11 : S11[b2']? = some (.lst (ds.map Df.pv)) := by (repeat' (first | assumption | refine Keep.get (by assumption) ?_ (by first | (simp; done) | (simp; omega))))
      refine ⟨by intro p hp; simp at hp; subst hp; exact b11, ?_⟩
      simp [-e_newK, -addP_loc, -e_lstO, -listP_ap, -slP_loc, -revP_loc, -e_dictM]
      refine list_wp (xs := ds.map Df.pv) (by simp [b11]) ?_
      intro hl S12 e12 k12 g12
      have lk12 := k12.1
      simp [-e_newK, -addP_loc, -e_lstO, -listP_ap, -slP_loc, -revP_loc, -e_dictM]
      refine makeP_wp e12 pg ?_
      intro pl n S13 p1 p2 p3 p4 k13
      simp [-e_newK, -addP_loc, -e_lstO, -listP_ap, -slP_loc, -revP_loc, -e_dictM]
      refine tables_wp ⟨n, p1, p2⟩ z (form_ok fun k hk => facts_form hk) ?_
      intro fl S14 e14 k14 g14
      have lk14 := k14.1
      simp [e14, -e_newK, -addP_loc, -e_lstO, -listP_ap, -slP_loc, -revP_loc, -e_dictM]
      refine acc_filter tupT tupT isNext (by intro p hp; simp at hp; subst hp; exact e14) (by have h1 := sortset_len (factsOf ds); have h2 := facts_len z; have := z.len; simp; omega) ?_ ?_
      · intro x hx acc J2 ha hJ2
        refine ⟨_, rfl, ?_⟩
        rcases facts_form (mem_sortset.mp hx) with ⟨tt, p, q, rfl⟩ | ⟨w, tt, p, q, hw, rfl⟩
        · simp [wipeE, stepE_wp, ha, tupT, kP, -e_newK, -addP_loc, -e_lstO, -listP_ap, -slP_loc, -revP_loc, -e_dictM]
          simpa [isNext, tupT, kP] using hJ2
        · simp [wipeE, stepE_wp, ha, tupT, kP, -e_newK, -addP_loc, -e_lstO, -listP_ap, -slP_loc, -revP_loc, -e_dictM]
          exact ⟨fun h => absurd h hw, fun _ => by simpa [isNext, hw] using hJ2⟩
      rw [next_due z]
      refine new_wp ?_
      intro tl S15 e15 k15 g15
      have lk15 := k15.1
      have d15 : S15[du']? = some (.lst ((dueOf' ds).map tupT)) := by (repeat' (first | assumption | refine Keep.get (by assumption) ?_ (by first | (simp; done) | (simp; omega))))
      simp [-e_newK, -addP_loc, -e_lstO, -listP_ap, -slP_loc, -revP_loc, -e_dictM]
      refine sortSet_wp d15 (by have := due_len z; have := z.len; omega) (form_ok fun k hk => .inl (due_form hk)) ?_
      intro sl S16 e16 k16 g16
      have lk16 := k16.1
      have e16' : S16[tl]? = some (.lst ((sortT (dedupT (dueOf' ds))).map tupT)) := by (repeat' (first | assumption | refine Keep.get (by assumption) ?_ (by first | (simp; done) | (simp; omega))))
      obtain ⟨bb, q1, q2⟩ := eqB_lists (by decide) e16' e16 (due_plain fa) (due_plain fa)
      have : bb = true := q2.mpr rfl
      subst this
      simp [q1, -e_newK, -addP_loc, -e_lstO, -listP_ap, -slP_loc, -revP_loc, -e_dictM]
      have kB : Keep [] S10 S16 := by (repeat (first | exact Keep.refl | refine Keep.step ?_ (by assumption) (by first | (simp; done) | (intro x hx hlt; simp at hx ⊢; omega))))
      exact hJ _ _ ⟨⟨_, _, _, _, _, _, _, _, _, _, _, rfl⟩, (T10.keep kB (by simp) (by simp)).up (by omega)⟩
  · rintro τ S1 ⟨⟨x2, x3, x4, x5, x6, x7, x8, x9, x10, x11, x12, rfl⟩, T1⟩
    refine ⟨by simp, ?_⟩
    simp
end K15
open PySem PySem.W PyProof.Rows
set_option maxHeartbeats 0 in
theorem PySem.Challenge.cw_codeasks_k15_what_comes_behind_holds : PySem.Challenge.rw_codeasks_k15_what_comes_behind.Holds := by
  w_on; o_law; k_head; (case hw => w_witness2)
  k_fill
  refine L2.walk_of (l := PySem.Challenge.rw_codeasks_k15_what_comes_behind) (n := 63) (k := 18) (x := "_law_script") (CX := fun w => L2.CX PySem.Challenge.rw_codeasks_k15_what_comes_behind.prog w) (sp := fun w => PL.spLaw _ 63) rfl (by decide) rfl ⟨rfl, by decide, by decide⟩ (fun w h Y => PySem.W.kIn_of Y) ?F (fun w H a ns hl hO hS => PL.spLaw_end hl hO hS) (fun w H s e s' h => PL.cx_end h)
  case F =>
    intro w mg fa h KX G hmg
    refine' K15.law_facts K15.main (w := w) KX G hmg ?l_is_name ?c_is_name ?k_is_name ?a_is_name ?l_each_row ?c_each_row ?k_each_row ?a_each_row ?l_numbered ?c_numbered ?k_numbered ?a_numbered ?l_size_of ?c_size_of ?k_size_of ?a_size_of ?l_names_asked ?c_names_asked ?k_names_asked ?a_names_asked ?l_call_of ?c_call_of ?k_call_of ?a_call_of ?l_names_in ?c_names_in ?k_names_in ?a_names_in ?l_is_sound ?c_is_sound ?k_is_sound ?a_is_sound ?l_Program_init ?c_Program_init ?k_Program_init ?l_Program_definitions ?c_Program_definitions ?k_Program_definitions ?l_facts_of_value ?c_facts_of_value ?k_facts_of_value ?a_facts_of_value ?l_facts_of_row ?c_facts_of_row ?k_facts_of_row ?a_facts_of_row ?l_nexts ?c_nexts ?k_nexts ?a_nexts ?l_tables ?c_tables ?k_tables ?a_tables ?l__law_deck ?c__law_deck ?k__law_deck ?a__law_deck ?l__law_take ?c__law_take ?k__law_take ?a__law_take ?l__law_size ?c__law_size ?k__law_size ?a__law_size ?l__law_block ?c__law_block ?k__law_block ?a__law_block ?l__law_back ?c__law_back ?k__law_back ?a__law_back ?l_law ?c_law ?k_law ?a_law ?a_Program ?pg_Program ?hd_Program ?po_Program ?sa_Program ?mk_Program ?kc_Program ?at_Program_init ?i_Program_init ?at_Program_definitions ?i_Program_definitions ?na_definitions_kept ?l_einit ?c_einit ?k_einit ?ti_einit ?cg ?cta ?a_NoProgram ?xl_NoProgram ?rv_NoProgram ?sa_NoProgram ?be_NoProgram ?ty_NoProgram ?kp_NoProgram ?at_xNoProgram ?wn_NoProgram ?hx_NoProgram ?a_AskError ?xl_AskError ?rv_AskError ?sa_AskError ?be_AskError ?ty_AskError ?kp_AskError ?at_xAskError ?wn_AskError ?hx_AskError ?c_LETTERS ?c_MOST_LETTERS ?c_MAIN ?a_NAMED ?l_NAMED ?zl_NAMED ?ze_NAMED_0 ?ze_NAMED_1 ?ze_NAMED_2 ?ze_NAMED_3 ?ze_NAMED_4 ?ze_NAMED_5 ?n_abs ?n_all ?n_enumerate ?n_len ?n_list ?n_min ?n_range ?n_set ?n_sorted ?n_tuple
    (case a_is_name => k_is)
    (case a_each_row => k_is)
    (case a_numbered => k_is)
    (case a_size_of => k_is)
    (case a_names_asked => k_is)
    (case a_call_of => k_is)
    (case a_names_in => k_is)
    (case a_is_sound => k_is)
    (case a_facts_of_value => k_is)
    (case a_facts_of_row => k_is)
    (case a_nexts => k_is)
    (case a_tables => k_is)
    (case a__law_deck => k_is)
    (case a__law_take => k_is)
    (case a__law_size => k_is)
    (case a__law_block => k_is)
    (case a__law_back => k_is)
    (case a_law => k_is)
    (case a_Program => k_is)
    (case a_NoProgram => k_is)
    (case a_AskError => k_is)
    (case a_NAMED => k_is)
    (case at_Program_init => k_is)
    (case at_Program_definitions => k_is)
    (case at_xNoProgram => k_is)
    (case at_xAskError => k_is)
    (case l_is_name => k_is)
    (case l_each_row => k_is)
    (case l_numbered => k_is)
    (case l_size_of => k_is)
    (case l_names_asked => k_is)
    (case l_call_of => k_is)
    (case l_names_in => k_is)
    (case l_is_sound => k_is)
    (case l_Program_init => k_is)
    (case l_Program_definitions => k_is)
    (case l_facts_of_value => k_is)
    (case l_facts_of_row => k_is)
    (case l_nexts => k_is)
    (case l_tables => k_is)
    (case l__law_deck => k_is)
    (case l__law_take => k_is)
    (case l__law_size => k_is)
    (case l__law_block => k_is)
    (case l__law_back => k_is)
    (case l_law => k_is)
    (case l_einit => k_is)
    (case l_NAMED => k_is)
    (case c_is_name => k_is)
    (case k_is_name => k_is)
    (case c_each_row => k_is)
    (case k_each_row => k_is)
    (case c_numbered => k_is)
    (case k_numbered => k_is)
    (case c_size_of => k_is)
    (case k_size_of => k_is)
    (case c_names_asked => k_is)
    (case k_names_asked => k_is)
    (case c_call_of => k_is)
    (case k_call_of => k_is)
    (case c_names_in => k_is)
    (case k_names_in => k_is)
    (case c_is_sound => k_is)
    (case k_is_sound => k_is)
    (case c_Program_init => k_is)
    (case k_Program_init => k_is)
    (case c_Program_definitions => k_is)
    (case k_Program_definitions => k_is)
    (case c_facts_of_value => k_is)
    (case k_facts_of_value => k_is)
    (case c_facts_of_row => k_is)
    (case k_facts_of_row => k_is)
    (case c_nexts => k_is)
    (case k_nexts => k_is)
    (case c_tables => k_is)
    (case k_tables => k_is)
    (case c__law_deck => k_is)
    (case k__law_deck => k_is)
    (case c__law_take => k_is)
    (case k__law_take => k_is)
    (case c__law_size => k_is)
    (case k__law_size => k_is)
    (case c__law_block => k_is)
    (case k__law_block => k_is)
    (case c__law_back => k_is)
    (case k__law_back => k_is)
    (case c_law => k_is)
    (case k_law => k_is)
    (case pg_Program => k_is)
    (case hd_Program => k_is)
    (case po_Program => k_is)
    (case sa_Program => k_is)
    (case mk_Program => k_is)
    (case kc_Program => k_is)
    (case i_Program_init => k_is)
    (case i_Program_definitions => k_is)
    (case na_definitions_kept => k_is)
    (case c_einit => k_is)
    (case k_einit => k_is)
    (case ti_einit => k_is)
    (case cg => k_is)
    (case cta => k_is)
    (case xl_NoProgram => k_is)
    (case rv_NoProgram => first | rfl | decide +kernel)
    (case sa_NoProgram => k_is)
    (case be_NoProgram => k_is)
    (case ty_NoProgram => k_is)
    (case kp_NoProgram => k_is)
    (case wn_NoProgram => k_is)
    (case hx_NoProgram => k_is)
    (case xl_AskError => k_is)
    (case rv_AskError => first | rfl | decide +kernel)
    (case sa_AskError => k_is)
    (case be_AskError => k_is)
    (case ty_AskError => k_is)
    (case kp_AskError => k_is)
    (case wn_AskError => k_is)
    (case hx_AskError => k_is)
    (case c_LETTERS => k_is)
    (case c_MOST_LETTERS => k_is)
    (case c_MAIN => k_is)
    (case zl_NAMED => repeat' (first | exact True.intro | refine ⟨⟨_, _, rfl, rfl⟩, ?_⟩))
    (case ze_NAMED_0 => k_is)
    (case ze_NAMED_1 => k_is)
    (case ze_NAMED_2 => k_is)
    (case ze_NAMED_3 => k_is)
    (case ze_NAMED_4 => k_is)
    (case ze_NAMED_5 => k_is)
    (case n_abs => k_is)
    (case n_all => k_is)
    (case n_enumerate => k_is)
    (case n_len => k_is)
    (case n_list => k_is)
    (case n_min => k_is)
    (case n_range => k_is)
    (case n_set => k_is)
    (case n_sorted => k_is)
    (case n_tuple => k_is)
