import PyProof.Rows.All
import Wide.All
import OpenK.AllK
import Wide.FinOn
import HandS.Call
import HandS.List
import HandS.TupAny
import HandS.Iter
import HandS.Base
import HandS.Comp
import HandS.Exc
import HandS.ExcOwn
import KE.KDictCopyH
import KE.KNestM
import KE.KeyNested
import HandS.Wide
import HandS.Text
import HandS.Flow
import HandS.Dict
import HandS.Deep
import HandS.Conv
import HandS.WordsDict
import HandS.More
import HandS.SetKeys
import HandS.IsInst
import HandS.CallSlots
import HandS.Style
import HandS.ExcInit
import HandS.TryOnly
import HandS.WordsExc
import HandS.MakeKw
import HandS.RaiseFrom
import HandS.Strs
import HandS.ExcField
import HandS.ExcIs
import KE.KExcIs
import HandS.Sort
import HandS.TupMul
import HandS.Replace
import HandS.Codes
import PyProof.Rows.StrJoinRep
import HandS.OwnEq
import HandS.TupSets
import KE.KSortTupAny
import HandS.SortRule
import HandS.SortInts
import KE.GoesEnum
import KE.GoesZip
import KE.GoesMore
import KE.KRevSl
import KE.KUnpackStar
import HandS.Small
import HandS.DictComp
import KE.KDictZip
import HandS.SetBool
import HandS.Defaults
import PyProof.Rows.SortShellAny
import HandS.FStr
import KE.DataEq
import KE.KDictDisplayH
import PyProof.DictMoreH
import HandS.DictTup
import KE.KDictSum
import HandS.TupLe
import KE.KDictItemsList
import KE.LtSeq
import HandS.ExcValue
import PyProof.DictUpdate
import PySem.Challenge.RW_codeasks_k59_rules_written_and_read
set_option Elab.async false
set_option linter.all false
set_option maxRecDepth 100000
namespace PLz
open PySem PySem.Spec PyProof.Rows L2
def NewT (H:Hp) (p:Addr) (xs:List V) (Q:Hp→Prop):Prop:=∀ o:Obj,o.dict = none→Q (upd H p (.frz o (.tup xs)))
section
variable {X:Cx} {es:List Expr} {pos:Pos}
def tTupZ (t:TA):TE:=fun σ H Q => t σ H fun xs H1 => xs.length ≤ sizeLine∧∀ p,H1 p = none→NewT H1 p xs (Q (.ref p))
theorem pe_tupZ {x1} {t:TA} (h:PA X es t):PE X (.Tuple es x1 pos) (tTupZ t):=by
 refine ⟨fun pins s σ H Q I hq => ?_⟩
 refine wpAny_Tuple_spliced (thn (h.run pos pins s σ H _ I hq) fun us s1 ⟨xs,H1,I1,r,z,q⟩ => ⟨by rw [← r.length]; exact z,?_⟩)
 have hf:H1 s1.heap.objs.size = none:=I1.hok.fresh (Nat.le_refl _)
 refine ⟨.ref s1.heap.objs.size,upd H1 s1.heap.objs.size (.frz { cls:=.type "tuple",data:=.seq us.toArray } (.tup xs)),I1.laid (t':=s1.toks) (fun b u e => Heap.get?_push_of_some _ e) (Nat.le_refl _) ?_,rfl,q _ hf _ rfl⟩
 exact ⟨Heap.get?_push_size _ rfl,z,us,r,⟨_,Heap.get?_push_size _ rfl,rfl,_,rfl⟩⟩
def rSlTZ (K:PySem.W.Frag):V→Option Int→Option Int→Hp→VK→Prop:=fun x lo hi H Q => ∃ a xs,x = .ref a∧SqT K H a xs ∧
 (HT.sIx xs.length 0 lo = 0∧HT.sIx xs.length xs.length hi = xs.length→Q (.ref a) H) ∧
 (¬ (HT.sIx xs.length 0 lo = 0∧HT.sIx xs.length xs.length hi = xs.length)→∀ p,H p = none→NewT H p (cutV xs lo hi) (Q (.ref p)))
theorem sl_tupZ:SlR X (rSlTZ X.K):=by
 intro pins s σ H x v vl vu lo hi sl Q I rx hs pl pu h
 obtain ⟨a,xs,rfl,hx,q1,q2⟩:=h
 cases rx
 obtain ⟨its,r,ht,hz⟩:=I.tuple hx
 have hlen:its.toArray.size = xs.length:=by rw [List.size_toArray]; exact r.length.symm
 refine ⟨"tuple",_,PyProof.Rows.slot_tuple_getitem.lookup,ht.typeIs,?_⟩
 by_cases hw:HT.sIx xs.length 0 lo = 0∧HT.sIx xs.length xs.length hi = xs.length
 ·exact getItem_tuple_whole ht hs pl pu (by rw [hlen]; exact hw) ⟨.ref a,H,I,rfl,q1 hw⟩
 refine HT.getItem_tuple_cut ht hs pl pu (by rw [hlen]; exact hw) ?_ (by rw [hlen]; exact hz)
 rw [hlen]
 refine ⟨.ref s.heap.objs.size,_,I.laid (t':=s.toks) (o:=.frz { cls:=.type "tuple",data:=.seq ((its.drop (HT.sIx xs.length 0 lo)).take (HT.sIx xs.length xs.length hi - HT.sIx xs.length 0 lo)).toArray } (.tup (cutV xs lo hi))) (fun b ob q => Heap.get?_push_of_some _ q) (Nat.le_refl _) ?_,rfl,q2 hw _ (I.hok.fresh (Nat.le_refl _)) _ rfl⟩
 exact ⟨Heap.get?_push_size _ rfl,Nat.le_trans (cutV_length xs lo hi) hz,_,(r.drop (HT.sIx xs.length 0 lo)).take (HT.sIx xs.length xs.length hi - HT.sIx xs.length 0 lo),IsTup.new _ _⟩
def rCatZ (K:PySem.W.Frag):R2:=fun x y H Q => ∃ a b xs ys,x = .ref a∧y = .ref b∧SqT K H a xs∧SqT K H b ys∧xs.length + ys.length ≤ sizeLine ∧
 (xs = []→Q (.ref b) H)∧(xs ≠ []→ys = []→Q (.ref a) H)∧(xs ≠ []→ys ≠ []→∀ p,H p = none→NewT H p (xs ++ ys) (Q (.ref p)))
theorem op_catZ:OpR X (binaryOp .Add) (rCatZ X.K):=by
 intro pins s σ H x y v u Q I rx ry h
 obtain ⟨a,b,xs,ys,rfl,rfl,ha,hb,hz,q0,q1,q2⟩:=h
 cases rx
 cases ry
 obtain ⟨its,r1,p1,_⟩:=I.tuple ha
 obtain ⟨its2,r2,p2,_⟩:=I.tuple hb
 by_cases hx:xs = []
 ·subst hx
  cases r1
  exact cat_tup0 p1 p2 ⟨.ref b,H,I,rfl,q0 rfl⟩
 refine HT.cat_tup p1 p2 (fun z => hx (r1.nil_iff.mp z)) (fun z => ⟨.ref a,H,I,rfl,q1 hx (r2.nil_iff.mp z)⟩) (fun z => ?_) (by rw [← r1.length,← r2.length]; exact hz)
 refine ⟨.ref s.heap.objs.size,_,I.laid (t':=s.toks) (o:=.frz { cls:=.type "tuple",data:=.seq (its ++ its2).toArray } (.tup (xs ++ ys))) (fun b ob q => Heap.get?_push_of_some _ q) (Nat.le_refl _) ?_,rfl,q2 hx (fun w => z (r2.nil_iff.mpr w)) _ (I.hok.fresh (Nat.le_refl _)) _ rfl⟩
 exact ⟨Heap.get?_push_size _ rfl,by rw [List.length_append]; exact hz,_,r1.append r2,IsTup.new _ _⟩
theorem call_tupleZ:CallR X (.type "tuple") (fun xs H Q => ∃ p ys,xs = [.ref p]∧((SqL X.K H p ys∧∀ l,H l = none→NewT H l ys (Q (.ref l))) ∨ (SqT X.K H p ys∧Q (.ref p) H))):=by
 intro pins s σ H xs us Q I r h
 obtain ⟨p,ys,rfl,h⟩:=h
 obtain ⟨u,rfl,rx⟩:=r.one
 cases rx
 rcases h with ⟨hq,q⟩ | ⟨hq,q⟩
 ·obtain ⟨its,r',pl,hz⟩:=I.list hq
  have hlen:=r'.length
  refine call_tuple_list pl.isList (fun h' kp => ?_) (by simp only [List.size_toArray] <;> omega)
  have I1:Inv X pins σ H { s with heap:=h' }:=I.kept (t':=s.toks) kp
  have I2:Inv X pins σ (upd H h'.objs.size (.frz { cls:=.type "tuple",data:=.seq its.toArray } (.tup ys))) { s with heap:=h'.push { cls:=.type "tuple",data:=.seq its.toArray } } :=
   I1.laid (t':=s.toks) (fun b o e => Heap.get?_push_of_some _ e) (Nat.le_refl _) (show ObjOk X.prog X.w _ _ _ (.frz _ (.tup ys)) from ⟨Heap.get?_push_size _ rfl,hz,its,r',IsTup.new _ _⟩)
  exact ⟨.ref h'.objs.size,_,I2,rfl,q _ (I1.hok.fresh (Nat.le_refl _)) _ rfl⟩
 ·obtain ⟨its,r',pl,hz⟩:=I.tuple hq
  exact call_tuple_same pl ⟨.ref p,H,I,rfl,q⟩
end
end PLz
namespace PL
open PySem PySem.Spec PyProof.Rows L2

inductive PV where
 | non | bl (b:Bool) | int (i:Int) | str (x:Str) | tup (xs:List PV) | fls (xs:List PV) | loc (l:Nat) | fn (a:Nat) (u:V) (m:PV)
instance:Inhabited PV:=⟨.non⟩
inductive Ob where
 | lst (xs:List PV)
 | dct (kvs:List (Key × PV))
 | ins (C:Str) (fs:List (Str × PV))
 | dtp (kvs:List (List Leaf × PV))
 | tab (nm q:Str)
 | exc (C:Str) (p:PV)
 | ndt (kvs:List (NestedKey × PV))
instance:Inhabited Ob:=⟨.lst []⟩
abbrev Sto:=List Ob
abbrev En:=List (Option PV)

inductive Out (α : Type) where
 | ok (a : α) (S:Sto) | er (c:Str) (p:PV) (S:Sto) | bad
abbrev EM (α : Type):=En→Sto→Out α
inductive OS where
 | nx (τ : En) (S:Sto) | rt (v:PV) (S:Sto) | er (c:Str) (p:PV) (τ : En) (S:Sto) | bad
abbrev SM:=En→Sto→OS

def bnd {α β : Type} (o:Out α) (f : α→Sto→Out β):Out β :=
 match o with
 | .ok a S => f a S
 | .er c p S => .er c p S
 | .bad => .bad
@[simp] theorem bnd_ok {α β : Type} (a : α) (S:Sto) (f : α→Sto→Out β):bnd (.ok a S) f = f a S:=rfl
@[simp] theorem bnd_er {α β : Type} (c:Str) (p:PV) (S:Sto) (f : α→Sto→Out β):bnd (.er c p S) f = .er c p S:=rfl
@[simp] theorem bnd_bad {α β : Type} (f : α→Sto→Out β):bnd .bad f = .bad:=rfl

def wp {α : Type} (o:Out α) (P : α→Sto→Prop) (R:Str→PV→Sto→Prop):Prop :=
 match o with
 | .ok a S => P a S
 | .er c p S => R c p S
 | .bad => False
@[simp] theorem wp_ok {α : Type} (a : α) (S:Sto) (P : α→Sto→Prop) (R:Str→PV→Sto→Prop):wp (.ok a S) P R = P a S:=rfl
@[simp] theorem wp_er {α : Type} (c:Str) (p:PV) (S:Sto) (P : α→Sto→Prop) (R:Str→PV→Sto→Prop):wp (.er c p S:Out α) P R = R c p S:=rfl
@[simp] theorem wp_bad {α : Type} (P : α→Sto→Prop) (R:Str→PV→Sto→Prop):wp (.bad:Out α) P R = False:=rfl
theorem wp_bnd {α β : Type} (o:Out α) (f : α→Sto→Out β) (P : β→Sto→Prop) (R:Str→PV→Sto→Prop):wp (bnd o f) P R = wp o (fun a S => wp (f a S) P R) R:=by
 cases o <;> rfl
theorem wp_mono {α : Type} {o:Out α} {P P' : α→Sto→Prop} {R R':Str→PV→Sto→Prop} (h:wp o P R) (hP:∀ a S,P a S→P' a S) (hR:∀ c p S,R c p S→R' c p S):wp o P' R':=by
 cases o with
 | ok a S => exact hP a S h
 | er c p S => exact hR c p S h
 | bad => exact h
def wpS (o:OS) (N:En→Sto→Prop) (T:PV→Sto→Prop) (R:Str→PV→En→Sto→Prop):Prop :=
 match o with
 | .nx τ S => N τ S
 | .rt v S => T v S
 | .er c p τ S => R c p τ S
 | .bad => False
@[simp] theorem wpS_nx (τ : En) (S:Sto) (N:En→Sto→Prop) (T:PV→Sto→Prop) (R:Str→PV→En→Sto→Prop):wpS (.nx τ S) N T R = N τ S:=rfl
@[simp] theorem wpS_rt (v:PV) (S:Sto) (N:En→Sto→Prop) (T:PV→Sto→Prop) (R:Str→PV→En→Sto→Prop):wpS (.rt v S) N T R = T v S:=rfl
@[simp] theorem wpS_er (c:Str) (p:PV) (τ : En) (S:Sto) (N:En→Sto→Prop) (T:PV→Sto→Prop) (R:Str→PV→En→Sto→Prop):wpS (.er c p τ S) N T R = R c p τ S:=rfl
@[simp] theorem wpS_bad (N:En→Sto→Prop) (T:PV→Sto→Prop) (R:Str→PV→En→Sto→Prop):wpS .bad N T R = False:=rfl
theorem wpS_mono {o:OS} {N N':En→Sto→Prop} {T T':PV→Sto→Prop} {R R':Str→PV→En→Sto→Prop} (h:wpS o N T R) (hN:∀ τ S,N τ S→N' τ S) (hT:∀ v S,T v S→T' v S) (hR:∀ c p τ S,R c p τ S→R' c p τ S):wpS o N' T' R':=by
 cases o with
 | nx τ S => exact hN τ S h
 | rt v S => exact hT v S h
 | er c p τ S => exact hR c p τ S h
 | bad => exact h

def FzL (K:PySem.W.Frag) (H:Hp) (a:Addr) (xs:List V):Prop :=
 (∃ o,H a = some (.frz o (.lst xs))) ∨
  ∃ (o:Obj) (its:Array Value) (n:Nat),K.lookup a = some o∧o.cls = .type "list"∧o.dict = none∧o.data = .seq its n∧its.size ≤ sizeLine∧Vals xs its.toList
def FzT (K:PySem.W.Frag) (H:Hp) (a:Addr) (xs:List V):Prop :=
 (∃ o:Obj,H a = some (.frz o (.tup xs))∧o.dict = none) ∨
  ∃ (o:Obj) (its:Array Value) (n:Nat),K.lookup a = some o∧o.cls = .type "tuple"∧o.dict = none∧o.data = .seq its n∧its.size ≤ sizeLine∧Vals xs its.toList
theorem FzL.seq {K:PySem.W.Frag} {H:Hp} {a:Addr} {xs:List V} (h:FzL K H a xs):SqL K H a xs:=by
 rcases h with h | h
 ·exact .inl (.inr h)
 ·exact .inr h
theorem FzT.seq {K:PySem.W.Frag} {H:Hp} {a:Addr} {xs:List V} (h:FzT K H a xs):SqT K H a xs:=by
 rcases h with ⟨o,h,_⟩ | ⟨o,its,n,h1,h2,_,h3⟩
 ·exact .inl (.inr ⟨o,h⟩)
 ·exact .inr ⟨o,its,n,h1,h2,h3⟩

mutual
def Rp (K:PySem.W.Frag) (ι : List Addr) (H:Hp):PV→V→Prop
 | .non,v => v = .non
 | .bl b,v => v = .bl b
 | .int i,v => v = .int i
 | .str x,v => v = .str x
 | .tup xs,v => ∃ a vs,v = .ref a∧FzT K H a vs∧RpL K ι H xs vs
 | .fls xs,v => ∃ a vs,v = .ref a∧FzL K H a vs∧RpL K ι H xs vs
 | .loc l,v => ∃ a,v = .ref a∧ι[l]? = some a
 | .fn a u m,v => v = .ref a∧Rp K ι H m u
def RpL (K:PySem.W.Frag) (ι : List Addr) (H:Hp):List PV→List V→Prop
 | [],vs => vs = []
 | x :: xs,vs => ∃ v r,vs = v :: r∧Rp K ι H x v∧RpL K ι H xs r
end

structure Ext (ι : List Addr) (H:Hp) (ι':List Addr) (H':Hp):Prop where
 pre:∀ (l:Nat) (a:Addr),ι[l]? = some a→ι'[l]? = some a
 fr:∀ a o,H a = some o→a ∉ ι→H' a = some o
 new:∀ a,a ∈ ι'→a ∈ ι ∨ H a = none
 tups:∀ a xs,H a = some (.tup xs)→H' a = some (.tup xs)
 frzs:∀ a o u,H a = some (.frz o u)→H' a = some (.frz o u)
theorem Ext.refl {ι : List Addr} {H:Hp}:Ext ι H ι H:=⟨fun _ _ h => h,fun _ _ h _ => h,fun _ h => .inl h,fun _ _ h => h,fun _ _ _ h => h⟩
theorem Ext.trans {ι ι1 ι2:List Addr} {H H1 H2:Hp} (a:Ext ι H ι1 H1) (b:Ext ι1 H1 ι2 H2):Ext ι H ι2 H2 where
 pre:=fun l x h => b.pre l x (a.pre l x h)
 fr:=fun x o h n => b.fr x o (a.fr x o h n) fun m => by
  rcases a.new x m with q | q
  ·exact n q
  ·rw [h] at q; cases q
 new:=fun x m => by
  rcases b.new x m with q | q
  ·exact a.new x q
  ·cases e:H x with
   | none => exact .inr rfl
   | some o =>
    by_cases hx:x ∈ ι
    ·exact .inl hx
    ·rw [a.fr x o e hx] at q; cases q
 tups:=fun x xs h => b.tups x xs (a.tups x xs h)
 frzs:=fun x o u h => b.frzs x o u (a.frzs x o u h)

section
variable {K:PySem.W.Frag} {ι ι':List Addr} {H H':Hp}
theorem FzT.mono {a:Addr} {xs:List V} (h:FzT K H a xs) (e:Ext ι H ι' H'):FzT K H' a xs:=by
 rcases h with ⟨o,h,hd⟩ | h
 ·exact .inl ⟨o,e.frzs a o _ h,hd⟩
 ·exact .inr h
theorem FzL.mono {a:Addr} {xs:List V} (h:FzL K H a xs) (e:Ext ι H ι' H'):FzL K H' a xs:=by
 rcases h with ⟨o,h⟩ | h
 ·exact .inl ⟨o,e.frzs a o _ h⟩
 ·exact .inr h
mutual
theorem Rp.mono (e:Ext ι H ι' H'):∀ (x:PV) (v:V),Rp K ι H x v→Rp K ι' H' x v
 | .non,_,h => h
 | .bl _,_,h => h
 | .int _,_,h => h
 | .str _,_,h => h
 | .tup xs,v,h => by
  obtain ⟨a,vs,e1,e2,e3⟩:=h
  exact ⟨a,vs,e1,e2.mono e,RpL.mono e xs vs e3⟩
 | .fls xs,v,h => by
  obtain ⟨a,vs,e1,e2,e3⟩:=h
  exact ⟨a,vs,e1,e2.mono e,RpL.mono e xs vs e3⟩
 | .loc l,v,h => by
  obtain ⟨a,e1,e2⟩:=h
  exact ⟨a,e1,e.pre l a e2⟩
 | .fn a u m,_,h => ⟨h.1,Rp.mono e m u h.2⟩
theorem RpL.mono (e:Ext ι H ι' H'):∀ (xs:List PV) (vs:List V),RpL K ι H xs vs→RpL K ι' H' xs vs
 | [],_,h => h
 | x :: xs,vs,h => by
  obtain ⟨v,r,e1,e2,e3⟩:=h
  exact ⟨v,r,e1,Rp.mono e x v e2,RpL.mono e xs r e3⟩
end
theorem Rp.up {x:PV} {v:V} (h:Rp K ι H x v) (e:Ext ι H ι' H'):Rp K ι' H' x v:=Rp.mono e x v h
theorem RpL.up {xs:List PV} {vs:List V} (h:RpL K ι H xs vs) (e:Ext ι H ι' H'):RpL K ι' H' xs vs:=RpL.mono e xs vs h

theorem RpL.length:∀ {xs:List PV} {vs:List V},RpL K ι H xs vs→xs.length = vs.length
 | [],_,h => by have h:_ = []:=h; subst h; rfl
 | x :: xs,vs,h => by
  obtain ⟨v,r,rfl,_,e3⟩:=h
  simp [RpL.length e3]
theorem RpL.get:∀ {xs:List PV} {vs:List V} {i:Nat} {x:PV},RpL K ι H xs vs→xs[i]? = some x→∃ v,vs[i]? = some v∧Rp K ι H x v
 | [],_,_,_,_,e => by simp at e
 | y :: xs,vs,0,x,h,e => by
  obtain ⟨v,r,rfl,e2,e3⟩:=h
  simp at e; subst e
  exact ⟨v,rfl,e2⟩
 | y :: xs,vs,i + 1,x,h,e => by
  obtain ⟨v,r,rfl,e2,e3⟩:=h
  obtain ⟨v',h1,h2⟩:=RpL.get (i:=i) e3 (by simpa using e)
  exact ⟨v',by simpa using h1,h2⟩
theorem RpL.app:∀ {xs ys:List PV} {vs ws:List V},RpL K ι H xs vs→RpL K ι H ys ws→RpL K ι H (xs ++ ys) (vs ++ ws)
 | [],_,_,_,h,h' => by have h:_ = []:=h; subst h; exact h'
 | x :: xs,_,_,_,h,h' => by
  obtain ⟨v,r,rfl,e2,e3⟩:=h
  exact ⟨v,r ++ _,rfl,e2,RpL.app e3 h'⟩
theorem RpL.take:∀ {xs:List PV} {vs:List V} (n:Nat),RpL K ι H xs vs→RpL K ι H (xs.take n) (vs.take n)
 | [],_,n,h => by have h:_ = []:=h; subst h; simp [RpL]
 | x :: xs,_,0,h => by simp [RpL]
 | x :: xs,_,n + 1,h => by
  obtain ⟨v,r,rfl,e2,e3⟩:=h
  exact ⟨v,r.take n,rfl,e2,RpL.take n e3⟩
theorem RpL.drop:∀ {xs:List PV} {vs:List V} (n:Nat),RpL K ι H xs vs→RpL K ι H (xs.drop n) (vs.drop n)
 | [],_,n,h => by have h:_ = []:=h; subst h; simp [RpL]
 | x :: xs,_,0,h => h
 | x :: xs,_,n + 1,h => by
  obtain ⟨v,r,rfl,e2,e3⟩:=h
  exact RpL.drop n e3
theorem RpL.set:∀ {xs:List PV} {vs:List V} {x:PV} {v:V} (i:Nat),RpL K ι H xs vs→Rp K ι H x v→RpL K ι H (xs.set i x) (vs.set i v)
 | [],_,_,_,i,h,_ => by have h:_ = []:=h; subst h; rfl
 | y :: xs,_,x,v,0,h,hx => by
  obtain ⟨w,r,rfl,e2,e3⟩:=h
  exact ⟨v,r,rfl,hx,e3⟩
 | y :: xs,_,x,v,i + 1,h,hx => by
  obtain ⟨w,r,rfl,e2,e3⟩:=h
  exact ⟨w,r.set i v,rfl,e2,RpL.set i e3 hx⟩
theorem RpL.one {x:PV} {v:V} (h:Rp K ι H x v):RpL K ι H [x] [v]:=⟨v,[],rfl,h,rfl⟩
theorem RpL.ints:∀ ns:List Int,RpL K ι H (ns.map PV.int) (ns.map V.int)
 | [] => rfl
 | n :: ns => ⟨.int n,ns.map V.int,rfl,rfl,RpL.ints ns⟩
end

def RpF (K:PySem.W.Frag) (ι : List Addr) (H:Hp) {κ : Type}:List (κ × PV)→List (κ × V)→Prop
 | [],ws => ws = []
 | (k,x) :: r,ws => ∃ v w,ws = (k,v) :: w∧Rp K ι H x v∧RpF K ι H r w
section
variable {K:PySem.W.Frag} {ι ι':List Addr} {H H':Hp} {κ : Type}
theorem RpF.up:∀ {fs:List (κ × PV)} {ws:List (κ × V)},RpF K ι H fs ws→Ext ι H ι' H'→RpF K ι' H' fs ws
 | [],_,h,_ => h
 | (k,x) :: r,_,h,e => by
  obtain ⟨v,w,rfl,h1,h2⟩:=h
  exact ⟨v,w,rfl,h1.up e,RpF.up h2 e⟩
theorem RpF.length:∀ {fs:List (κ × PV)} {ws:List (κ × V)},RpF K ι H fs ws→fs.length = ws.length
 | [],_,h => by have h:_ = []:=h; subst h; rfl
 | (k,x) :: r,_,h => by
  obtain ⟨v,w,rfl,h1,h2⟩:=h
  simp [RpF.length h2]
theorem RpF.keys:∀ {fs:List (κ × PV)} {ws:List (κ × V)},RpF K ι H fs ws→fs.map (·.1) = ws.map (·.1)
 | [],_,h => by have h:_ = []:=h; subst h; rfl
 | (k,x) :: r,_,h => by
  obtain ⟨v,w,rfl,h1,h2⟩:=h
  simp [RpF.keys h2]
theorem RpF.lookup [BEq κ]:∀ {fs:List (κ × PV)} {ws:List (κ × V)} {f : κ} {x:PV},RpF K ι H fs ws→fs.lookup f = some x→∃ v,ws.lookup f = some v∧Rp K ι H x v
 | [],_,_,_,_,e => by simp at e
 | (k,x) :: r,_,f,y,h,e => by
  obtain ⟨v,w,rfl,h1,h2⟩:=h
  rw [List.lookup_cons] at e ⊢
  split at e
  ·rename_i q
   cases e
   exact ⟨v,by simp_all,h1⟩
  ·rename_i q
   obtain ⟨v',h3,h4⟩:=RpF.lookup (f:=f) h2 e
   exact ⟨v',by simp_all,h4⟩
end

def lV:Leaf→V
 | .none => .non
 | .num i => .int i
 | .text x => .str x
def DE (ΩP:Program) (Ωw:World) (a:Addr) (xs:List (List Leaf × Addr × V)):HO:=.ext fun h => (a == sysModules) = false∧xs.length ≤ sizeLine∧∃ vs:List (List Leaf × Addr × Value),Paired (fun (p:List Leaf × Addr × V) (q:List Leaf × Addr × Value) => p.1 = q.1∧p.2.1 = q.2.1∧RelV p.2.2 q.2.2) xs vs ∧
 ∃ o es,h.get? a = some o∧o.ExactDict∧o.data = .dict es xs.length∧es.toList = vs.map (entryOfKey (tupleKind (leafKind ΩP Ωw)))∧(vs.map (·.1)).Nodup
def NkV (K:PySem.W.Frag) (H:Hp):NestedKey→V→Prop
 | .none,v => v = .non
 | .num i,v => v = .int i
 | .text x,v => v = .str x
 | .tup ks,v => ∃ a vs,v = .ref a∧FzT K H a vs∧NkVs K H ks vs
where NkVs (K:PySem.W.Frag) (H:Hp):List NestedKey→List V→Prop
 | [],vs => vs = []
 | k :: ks,vs => ∃ v w,vs = v :: w∧NkV K H k v∧NkVs K H ks w
def DN (ΩP:Program) (Ωw:World) (a:Addr) (xs:List (NestedKey × Addr × V)):HO:=.ext fun h => (a == sysModules) = false∧xs.length ≤ sizeLine∧∃ vs:List (NestedKey × Addr × Value),Paired (fun (p:NestedKey × Addr × V) (q:NestedKey × Addr × Value) => p.1 = q.1∧p.2.1 = q.2.1∧RelV p.2.2 q.2.2) xs vs ∧
 ∃ o es,h.get? a = some o∧o.ExactDict∧o.data = .dict es xs.length∧es.toList = vs.map (entryOfKey (nestedKind ΩP Ωw))∧(vs.map (·.1)).Nodup
def XA (a:Addr) (oe:Obj):HO:=.ext fun h => h.get? a = some oe
def CodeZ (oc:Obj) (q:Str):Prop:=∃ (vs:Array Value) (t:Tok),oc.data = .fields vs∧vs[1]? = some (.str q t)
def TabZ (H:Hp) (a:Addr) (q:Str):Prop:=∃ ps:Array Value,H a = some (.tbl ps)∧TriplesOk ps.toList∧∀ (pos:Pos) (cv:Value),codeAmong pos ps.toList = some cv→∃ c oc,cv = .ref c∧H c = some (.frz oc (.ext fun _ => True))∧CodeZ oc q
theorem TabZ.to {H H':Hp} {a:Addr} {q:Str} (h:TabZ H a q) (k:H' a = H a) (e:∀ a o u,H a = some (.frz o u)→H' a = some (.frz o u)):TabZ H' a q:=by
 obtain ⟨ps,h1,h2,h3⟩:=h
 refine ⟨ps,k.trans h1,h2,fun pos cv hc => ?_⟩
 obtain ⟨c,oc,e1,e2,e3⟩:=h3 pos cv hc
 exact ⟨c,oc,e1,e c _ _ e2,e3⟩
def CodeAt (K:PySem.W.Frag) (f:Addr) (cv:Value):Prop:=∃ (oc:Value) (od:Option Addr) (nm qual:Str) (ps:Arguments) (b:List Stmt) (sc:Scope) (dV kV doc pm ct:Value) (an:Option Addr) (osl:Array (Option Value)),K.lookup f = some ⟨oc,od,.func (PySem.W.fnOf nm qual ps b sc dV kV doc pm an cv ct),osl⟩
def TabK (K:PySem.W.Frag) (mg:Str→Option Value) (nm:Str) (a:Addr):Prop:=∃ f c,mg nm = some (.ref f)∧CodeAt K f (.ref c)∧PySem.W.codeHdIn K c a = true
theorem FzT.to {K:PySem.W.Frag} {H H':Hp} {a:Addr} {xs:List V} (h:FzT K H a xs) (e:∀ a o u,H a = some (.frz o u)→H' a = some (.frz o u)):FzT K H' a xs:=h.imp (fun ⟨o,h,hd⟩ => ⟨o,e a o _ h,hd⟩) id
mutual
theorem NkV.mono {K:PySem.W.Frag} {H H':Hp} (e:∀ a o u,H a = some (.frz o u)→H' a = some (.frz o u)):∀ {k:NestedKey} {v:V},NkV K H k v→NkV K H' k v
 | .none,_,h => h
 | .num _,_,h => h
 | .text _,_,h => h
 | .tup ks,_,⟨a,vs,h1,h2,h3⟩ => ⟨a,vs,h1,h2.to e,NkVs.mono e h3⟩
theorem NkVs.mono {K:PySem.W.Frag} {H H':Hp} (e:∀ a o u,H a = some (.frz o u)→H' a = some (.frz o u)):∀ {ks:List NestedKey} {vs:List V},NkV.NkVs K H ks vs→NkV.NkVs K H' ks vs
 | [],_,h => h
 | _ :: _,_,⟨v,w,h1,h2,h3⟩ => ⟨v,w,h1,NkV.mono e h2,NkVs.mono e h3⟩
end
def OR (ΩP:Program) (Ωw:World) (K:PySem.W.Frag) (mg:Str→Option Value) (ι : List Addr) (H:Hp) (a:Addr):Ob→Prop
 | .lst xs => ∃ vs,H a = some (.lst vs)∧RpL K ι H xs vs
 | .dct kvs => ∃ ws,H a = some (.dK ws)∧RpF K ι H kvs ws
 | .ins C fs => ∃ Ca dx ws,mg C = some (.ref Ca)∧H a = some (.ins Ca dx ws)∧RpF K ι H fs ws
 | .dtp kvs => ∃ xs,H a = some (DE ΩP Ωw a xs)∧(∀ x ∈ xs,FzT K H x.2.1 (x.1.map lV))∧RpF K ι H kvs (xs.map fun x => (x.1,x.2.2))
 | .tab nm q => TabZ H a q∧TabK K mg nm a
 | .exc C p => ∃ oe Ca dd x,H a = some (XA a oe)∧mg C = some (.ref Ca)∧oe.cls = .ref Ca∧oe.dict = some dd∧(∃ vs,oe.data = .fields vs)∧dd ∉ ι∧H dd = some (.xd [("what",x)])∧Rp K ι H p x
 | .ndt kvs => ∃ xs,H a = some (DN ΩP Ωw a xs)∧(∀ x ∈ xs,x.1.depth ≤ 8∧NkV K H x.1 (.ref x.2.1))∧RpF K ι H kvs (xs.map fun x => (x.1,x.2.2))
structure RSt (ΩP:Program) (Ωw:World) (K:PySem.W.Frag) (mg:Str→Option Value) (ι : List Addr) (H:Hp) (S:Sto):Prop where
 len : ι.length = S.length
 nd : ι.Nodup
 obj:∀ (l:Nat) (a:Addr) (o:Ob),ι[l]? = some a→S[l]? = some o→OR ΩP Ωw K mg ι H a o
section
variable {K:PySem.W.Frag} {mg:Str→Option Value} {ι ι':List Addr} {H H':Hp} {S S':Sto} {a:Addr} {o:Ob} {l:Nat}
theorem OR.mut (h:OR ΩP Ωw K mg ι H a o):True∧H a ≠ none∧(∀ xs,H a ≠ some (.tup xs))∧∀ o u,H a ≠ some (.frz o u):=by
 cases o with
 | lst xs => obtain ⟨vs,e,_⟩:=h; rw [e]; exact ⟨trivial,by simp,by simp,by simp⟩
 | dct kvs => obtain ⟨vs,e,_⟩:=h; rw [e]; exact ⟨trivial,by simp,by simp,by simp⟩
 | ins C fs => obtain ⟨Ca,dx,ws,_,e,_⟩:=h; rw [e]; exact ⟨trivial,by simp,by simp,by simp⟩
 | dtp kvs => obtain ⟨vs,e,_⟩:=h; rw [e]; exact ⟨trivial,by simp [DE],by simp [DE],by simp [DE]⟩
 | tab nm q => obtain ⟨⟨vs,e,_⟩,_⟩:=h; rw [e]; exact ⟨trivial,by simp,by simp,by simp⟩
 | exc C p => obtain ⟨oe,_,_,_,e,_⟩:=h; rw [e]; exact ⟨trivial,by simp [XA],by simp [XA],by simp [XA]⟩
 | ndt kvs => obtain ⟨vs,e,_⟩:=h; rw [e]; exact ⟨trivial,by simp [DN],by simp [DN],by simp [DN]⟩
theorem RSt.get (r:RSt ΩP Ωw K mg ι H S) (h:S[l]? = some o):∃ a,ι[l]? = some a∧OR ΩP Ωw K mg ι H a o:=by
 have hl:l < S.length:=(List.getElem?_eq_some_iff.mp h).1
 have hι : l < ι.length:=by rw [r.len]; exact hl
 exact ⟨ι[l],List.getElem?_eq_getElem hι,r.obj l _ o (List.getElem?_eq_getElem hι) h⟩
theorem RSt.mem (r:RSt ΩP Ωw K mg ι H S) (h:a ∈ ι):∃ (l:Nat) (o:Ob),ι[l]? = some a∧S[l]? = some o∧OR ΩP Ωw K mg ι H a o:=by
 obtain ⟨l,hl,e⟩:=List.mem_iff_getElem.mp h
 have hS:l < S.length:=by rw [← r.len]; exact hl
 exact ⟨l,S[l],by rw [List.getElem?_eq_getElem hl,e],List.getElem?_eq_getElem hS,r.obj l a _ (by rw [List.getElem?_eq_getElem hl,e]) (List.getElem?_eq_getElem hS)⟩
theorem OR.up_other (h:OR ΩP Ωw K mg ι H a o) (e:Ext ι H ι' H') (k:H' a = H a):OR ΩP Ωw K mg ι' H' a o:=by
 cases o with
 | lst xs => obtain ⟨vs,q,r⟩:=h; exact ⟨vs,k.trans q,r.up e⟩
 | dct xs => obtain ⟨vs,q,r⟩:=h; exact ⟨vs,k.trans q,r.up e⟩
 | ins C fs => obtain ⟨Ca,dx,ws,m,q,r⟩:=h; exact ⟨Ca,dx,ws,m,k.trans q,r.up e⟩
 | dtp xs => obtain ⟨vs,q,z,r⟩:=h; exact ⟨vs,k.trans q,fun x hx => (z x hx).mono e,r.up e⟩
 | tab nm q => exact ⟨TabZ.to h.1 k e.frzs,h.2⟩
 | exc C p => obtain ⟨oe,Ca,dd,x,q,m,c1,c2,c3,nd,hd,r⟩:=h; exact ⟨oe,Ca,dd,x,k.trans q,m,c1,c2,c3,(fun z => (e.new dd z).elim nd fun z => by rw [hd] at z; cases z),e.fr _ _ hd nd,r.up e⟩
 | ndt xs => obtain ⟨vs,q,z,r⟩:=h; exact ⟨vs,k.trans q,fun x hx => ⟨(z x hx).1,(z x hx).2.mono e.frzs⟩,r.up e⟩
theorem RSt.write (r:RSt ΩP Ωw K mg ι H S) {ho:HO} (hl : ι[l]? = some a) (ho':OR ΩP Ωw K mg ι (upd H a ho) a o):Ext ι H ι (upd H a ho)∧RSt ΩP Ωw K mg ι (upd H a ho) (S.set l o):=by
 have hm:a ∈ ι:=List.mem_of_getElem? hl
 obtain ⟨l0,o0,h1,h2,h3⟩:=r.mem hm
 obtain ⟨_,_,nt,nf⟩:=h3.mut
 have ne:∀ b,b ≠ a→upd H a ho b = H b:=fun b hb => upd_ne hb
 have E:Ext ι H ι (upd H a ho):=⟨fun _ _ h => h,fun b u h n => by rw [ne b (fun z => n (z ▸ hm))]; exact h,fun _ h => .inl h,
  fun b xs h => by rw [ne b (fun z => by subst z; exact nt xs h)]; exact h,fun b o u h => by rw [ne b (fun z => by subst z; exact nf o u h)]; exact h⟩
 refine ⟨E,by rw [List.length_set]; exact r.len,r.nd,fun l' a' o' e1 e2 => ?_⟩
 by_cases hll:l' = l
 ·subst hll
  rw [hl] at e1; cases e1
  have hlt:l' < S.length:=by
   have:=(List.getElem?_eq_some_iff.mp hl).1
   rw [r.len] at this; exact this
  rw [List.getElem?_set_self hlt] at e2
  cases e2
  exact ho'
 ·rw [List.getElem?_set_ne (Ne.symm hll)] at e2
  have hne:a' ≠ a:=fun z => by
   subst z
   exact hll ((List.getElem?_inj (List.getElem?_eq_some_iff.mp e1).1 r.nd).mp (e1.trans hl.symm))
  exact (r.obj l' a' o' e1 e2).up_other E (ne a' hne)
theorem RSt.extw (r:RSt ΩP Ωw K mg ι H S) {ho:HO} (hl : ι[l]? = some a):Ext ι H ι (upd H a ho):=by
 have hm:a ∈ ι:=List.mem_of_getElem? hl
 obtain ⟨l0,o0,h1,h2,h3⟩:=r.mem hm
 obtain ⟨_,_,nt,nf⟩:=h3.mut
 have ne:∀ b,b ≠ a→upd H a ho b = H b:=fun b hb => upd_ne hb
 exact ⟨fun _ _ h => h,fun b u h n => by rw [ne b (fun z => n (z ▸ hm))]; exact h,fun _ h => .inl h,
  fun b xs h => by rw [ne b (fun z => by subst z; exact nt xs h)]; exact h,fun b o u h => by rw [ne b (fun z => by subst z; exact nf o u h)]; exact h⟩
theorem RSt.wlst (r:RSt ΩP Ωw K mg ι H S) {xs:List PV} {vs:List V} (hl : ι[l]? = some a) (h:RpL K ι H xs vs):Ext ι H ι (upd H a (.lst vs))∧RSt ΩP Ωw K mg ι (upd H a (.lst vs)) (S.set l (.lst xs)) :=
 r.write hl ⟨vs,upd_same,h.up (r.extw hl)⟩
theorem RSt.wdct (r:RSt ΩP Ωw K mg ι H S) {xs:List (Key × PV)} {vs:List (Key × V)} (hl : ι[l]? = some a) (h:RpF K ι H xs vs):Ext ι H ι (upd H a (.dK vs))∧RSt ΩP Ωw K mg ι (upd H a (.dK vs)) (S.set l (.dct xs)) :=
 r.write hl ⟨vs,upd_same,h.up (r.extw hl)⟩
theorem RSt.alloc (r:RSt ΩP Ωw K mg ι H S) {p:Addr} (hp:H p = none) (hn:∀ ι' H',Ext ι H ι' H'→H' p = H' p→True) {ho:HO} (E:Ext ι H (ι ++ [p]) (upd H p ho)) (ho':OR ΩP Ωw K mg (ι ++ [p]) (upd H p ho) p o):RSt ΩP Ωw K mg (ι ++ [p]) (upd H p ho) (S ++ [o]):=by
 have hnot:p ∉ ι:=fun hm => by
  obtain ⟨l0,o0,h1,h2,h3⟩:=r.mem hm
  exact h3.mut.2.1 hp
 refine ⟨by simp [r.len],List.nodup_append.mpr ⟨r.nd,by simp,fun x hx y hy => by simp at hy; subst hy; exact fun z => hnot (z ▸ hx)⟩,fun l' a' o' e1 e2 => ?_⟩
 by_cases hl:l' < ι.length
 ·rw [List.getElem?_append_left hl] at e1
  rw [List.getElem?_append_left (by rw [← r.len]; exact hl)] at e2
  exact (r.obj l' a' o' e1 e2).up_other E (upd_ne fun z => hnot (z ▸ List.mem_of_getElem? e1))
 ·rw [List.getElem?_append_right (by omega)] at e1
  rw [List.getElem?_append_right (by rw [← r.len]; omega)] at e2
  have:l' - ι.length = 0:=by
   have:=(List.getElem?_eq_some_iff.mp e1).1
   simp at this; omega
  have h2:l' - S.length = 0:=by rw [← r.len]; exact this
  rw [this] at e1; rw [h2] at e2
  simp at e1 e2
  subst e1; subst e2
  exact ho'
theorem Ext.alloc {p:Addr} {ho:HO} (hp:H p = none):Ext ι H (ι ++ [p]) (upd H p ho) where
 pre:=fun l x h => by
  rw [List.getElem?_append_left (List.getElem?_eq_some_iff.mp h).1]; exact h
 fr:=fun x u h _ => by rw [upd_ne (ne_of_none h hp)]; exact h
 new:=fun x m => by
  rcases List.mem_append.mp m with q | q
  ·exact .inl q
  ·have:x = p:=by simpa using q
   subst this; exact .inr hp
 tups:=fun x u h => by rw [upd_ne (ne_of_none h hp)]; exact h
 frzs:=fun x u z h => by rw [upd_ne (ne_of_none h hp)]; exact h
theorem Ext.other {p:Addr} {ho:HO} (hp:H p = none):Ext ι H ι (upd H p ho) where
 pre:=fun l x h => h
 fr:=fun x u h _ => by rw [upd_ne (ne_of_none h hp)]; exact h
 new:=fun x m => .inl m
 tups:=fun x u h => by rw [upd_ne (ne_of_none h hp)]; exact h
 frzs:=fun x u z h => by rw [upd_ne (ne_of_none h hp)]; exact h
theorem RSt.other (r:RSt ΩP Ωw K mg ι H S) (e:Ext ι H ι H') (k:∀ a,a ∈ ι→H' a = H a):RSt ΩP Ωw K mg ι H' S :=
 ⟨r.len,r.nd,fun l a o e1 e2 => (r.obj l a o e1 e2).up_other e (k a (List.mem_of_getElem? e1))⟩
theorem RSt.tup (r:RSt ΩP Ωw K mg ι H S) {p:Addr} {ho:HO} (hp:H p = none):Ext ι H ι (upd H p ho)∧RSt ΩP Ωw K mg ι (upd H p ho) S:=by
 refine ⟨.other hp,r.other (.other hp) fun a ha => upd_ne fun z => ?_⟩
 obtain ⟨l0,o0,h1,h2,h3⟩:=r.mem ha
 subst z
 exact h3.mut.2.1 hp
theorem RSt.new_lst (r:RSt ΩP Ωw K mg ι H S) {p:Addr} (hp:H p = none) {xs:List PV} {vs:List V} (h:RpL K ι H xs vs):Ext ι H (ι ++ [p]) (upd H p (.lst vs))∧RSt ΩP Ωw K mg (ι ++ [p]) (upd H p (.lst vs)) (S ++ [.lst xs])∧Rp K (ι ++ [p]) (upd H p (.lst vs)) (.loc S.length) (.ref p):=by
 have E:Ext ι H (ι ++ [p]) (upd H p (.lst vs)):=.alloc hp
 exact ⟨E,r.alloc hp (fun _ _ _ _ => trivial) E ⟨vs,upd_same,h.up E⟩,p,rfl,by rw [← r.len]; simp⟩
end

def REn (K:PySem.W.Frag) (ι : List Addr) (H:Hp):En→L2.St→Prop
 | [],σ => σ = []
 | none :: τ,σ => ∃ r,σ = none :: r∧REn K ι H τ r
 | some x :: τ,σ => ∃ v r,σ = some v :: r∧Rp K ι H x v∧REn K ι H τ r
section
variable {K:PySem.W.Frag} {ι ι':List Addr} {H H':Hp}
theorem REn.up:∀ {τ : En} {σ : L2.St},REn K ι H τ σ→Ext ι H ι' H'→REn K ι' H' τ σ
 | [],_,h,_ => h
 | none :: τ,_,h,e => by
  obtain ⟨r,rfl,q⟩:=h
  exact ⟨r,rfl,q.up e⟩
 | some x :: τ,_,h,e => by
  obtain ⟨v,r,rfl,h1,q⟩:=h
  exact ⟨v,r,rfl,h1.up e,q.up e⟩
theorem REn.get:∀ {τ : En} {σ : L2.St} {i:Nat} {x:PV},REn K ι H τ σ→τ[i]? = some (some x)→∃ v,σ[i]? = some (some v)∧Rp K ι H x v
 | [],_,_,_,_,e => by simp at e
 | none :: τ,_,0,x,h,e => by simp at e
 | some y :: τ,_,0,x,h,e => by
  obtain ⟨v,r,rfl,h1,q⟩:=h
  simp at e; subst e
  exact ⟨v,rfl,h1⟩
 | none :: τ,_,i + 1,x,h,e => by
  obtain ⟨r,rfl,q⟩:=h
  obtain ⟨v,h1,h2⟩:=REn.get (i:=i) q (by simpa using e)
  exact ⟨v,by simpa using h1,h2⟩
 | some y :: τ,_,i + 1,x,h,e => by
  obtain ⟨v,r,rfl,h1,q⟩:=h
  obtain ⟨v,h1,h2⟩:=REn.get (i:=i) q (by simpa using e)
  exact ⟨v,by simpa using h1,h2⟩
theorem REn.set:∀ {τ : En} {σ : L2.St} {x:PV} {v:V} (i:Nat),REn K ι H τ σ→Rp K ι H x v→REn K ι H (τ.set i (some x)) (σ.set i (some v))
 | [],_,_,_,i,h,_ => by have h:_ = []:=h; subst h; rfl
 | none :: τ,_,x,v,0,h,hx => by
  obtain ⟨r,rfl,q⟩:=h
  exact ⟨v,r,rfl,hx,q⟩
 | some y :: τ,_,x,v,0,h,hx => by
  obtain ⟨w,r,rfl,h1,q⟩:=h
  exact ⟨v,r,rfl,hx,q⟩
 | none :: τ,_,x,v,i + 1,h,hx => by
  obtain ⟨r,rfl,q⟩:=h
  exact ⟨r.set i (some v),rfl,REn.set i q hx⟩
 | some y :: τ,_,x,v,i + 1,h,hx => by
  obtain ⟨w,r,rfl,h1,q⟩:=h
  exact ⟨w,r.set i (some v),rfl,h1,REn.set i q hx⟩
theorem REn.unset:∀ {τ : En} {σ : L2.St} (i:Nat),REn K ι H τ σ→REn K ι H (τ.set i none) (σ.set i none)
 | [],_,i,h => by have h:_ = []:=h; subst h; rfl
 | none :: τ,_,0,h => by
  obtain ⟨r,rfl,q⟩:=h
  exact ⟨r,rfl,q⟩
 | some y :: τ,_,0,h => by
  obtain ⟨w,r,rfl,h1,q⟩:=h
  exact ⟨r,rfl,q⟩
 | none :: τ,_,i + 1,h => by
  obtain ⟨r,rfl,q⟩:=h
  exact ⟨r.set i none,rfl,REn.unset i q⟩
 | some y :: τ,_,i + 1,h => by
  obtain ⟨w,r,rfl,h1,q⟩:=h
  exact ⟨w,r.set i none,rfl,h1,REn.unset i q⟩
theorem REn.nones:∀ n:Nat,REn K ι H (List.replicate n none) (List.replicate n none)
 | 0 => rfl
 | n + 1 => ⟨List.replicate n none,rfl,REn.nones n⟩
theorem REn.args:∀ {ps:List PV} {vs:List V} {τ : En} {σ : L2.St},RpL K ι H ps vs→REn K ι H τ σ→REn K ι H (ps.map some ++ τ) (vs.map some ++ σ)
 | [],_,_,_,h,q => by have h:_ = []:=h; subst h; exact q
 | p :: ps,_,_,_,h,q => by
  obtain ⟨v,r,rfl,h1,h2⟩:=h
  exact ⟨v,r.map some ++ _,rfl,h1,REn.args h2 q⟩
end
structure ExtW (ι : List Addr) (H:Hp) (ι':List Addr) (H':Hp):Prop where
 pre:∀ (l:Nat) (a:Addr),ι[l]? = some a→ι'[l]? = some a
 tups:∀ a xs,H a = some (.tup xs)→H' a = some (.tup xs)
 frzs:∀ a o u,H a = some (.frz o u)→H' a = some (.frz o u)
theorem FzT.upW {K:PySem.W.Frag} {ι ι':List Addr} {H H':Hp} {a:Addr} {xs:List V} (h:FzT K H a xs) (e:ExtW ι H ι' H'):FzT K H' a xs:=h.imp (fun ⟨o,h,hd⟩ => ⟨o,e.frzs a o _ h,hd⟩) id
theorem FzL.upW {K:PySem.W.Frag} {ι ι':List Addr} {H H':Hp} {a:Addr} {xs:List V} (h:FzL K H a xs) (e:ExtW ι H ι' H'):FzL K H' a xs:=h.imp (fun ⟨o,h⟩ => ⟨o,e.frzs a o _ h⟩) id
theorem Ext.w {ι ι':List Addr} {H H':Hp} (e:Ext ι H ι' H'):ExtW ι H ι' H':=⟨e.pre,e.tups,e.frzs⟩
theorem ExtW.refl {ι : List Addr} {H:Hp}:ExtW ι H ι H:=⟨fun _ _ h => h,fun _ _ h => h,fun _ _ _ h => h⟩
theorem ExtW.trans {ι ι1 ι2:List Addr} {H H1 H2:Hp} (a:ExtW ι H ι1 H1) (b:ExtW ι1 H1 ι2 H2):ExtW ι H ι2 H2 :=
 ⟨fun l x h => b.pre l x (a.pre l x h),fun x xs h => b.tups x xs (a.tups x xs h),fun x o u h => b.frzs x o u (a.frzs x o u h)⟩
mutual
theorem Rp.upW {K:PySem.W.Frag} {ι ι':List Addr} {H H':Hp} (e:ExtW ι H ι' H'):∀ (x:PV) (v:V),Rp K ι H x v→Rp K ι' H' x v
 | .non,_,h => h
 | .bl _,_,h => h
 | .int _,_,h => h
 | .str _,_,h => h
 | .tup xs,v,h => by
  obtain ⟨a,vs,e1,e2,e3⟩:=h
  exact ⟨a,vs,e1,e2.upW e,RpL.upW e xs vs e3⟩
 | .fls xs,v,h => by
  obtain ⟨a,vs,e1,e2,e3⟩:=h
  exact ⟨a,vs,e1,e2.upW e,RpL.upW e xs vs e3⟩
 | .loc l,v,h => by
  obtain ⟨a,e1,e2⟩:=h
  exact ⟨a,e1,e.pre l a e2⟩
 | .fn a u m,_,h => ⟨h.1,Rp.upW e m u h.2⟩
theorem RpL.upW {K:PySem.W.Frag} {ι ι':List Addr} {H H':Hp} (e:ExtW ι H ι' H'):∀ (xs:List PV) (vs:List V),RpL K ι H xs vs→RpL K ι' H' xs vs
 | [],_,h => h
 | x :: xs,vs,h => by
  obtain ⟨v,r,e1,e2,e3⟩:=h
  exact ⟨v,r,e1,Rp.upW e x v e2,RpL.upW e xs r e3⟩
end
theorem RpF.upW {K:PySem.W.Frag} {ι ι':List Addr} {H H':Hp} {κ : Type} (e:ExtW ι H ι' H'):∀ {fs:List (κ × PV)} {ws:List (κ × V)},RpF K ι H fs ws→RpF K ι' H' fs ws
 | [],_,h => h
 | (k,x) :: r,_,h => by
  obtain ⟨v,w,rfl,h1,h2⟩:=h
  exact ⟨v,w,rfl,Rp.upW e x v h1,RpF.upW e h2⟩
theorem REn.upW {K:PySem.W.Frag} {ι ι':List Addr} {H H':Hp} (e:ExtW ι H ι' H'):∀ {τ : En} {σ : L2.St},REn K ι H τ σ→REn K ι' H' τ σ
 | [],_,h => h
 | none :: τ,_,h => by
  obtain ⟨r,rfl,q⟩:=h
  exact ⟨r,rfl,REn.upW e q⟩
 | some x :: τ,_,h => by
  obtain ⟨v,r,rfl,h1,q⟩:=h
  exact ⟨v,r,rfl,Rp.upW e x v h1,REn.upW e q⟩
def startE (n:Nat) (ps:List PV):En:=ps.map some ++ List.replicate (n - ps.length) none
theorem REn.start {K:PySem.W.Frag} {ι : List Addr} {H:Hp} {N:List Str} {ps:List PV} {vs:List V} (h:RpL K ι H ps vs):REn K ι H (startE N.length ps) (L2.start N vs):=by
 unfold startE L2.start
 rw [h.length]
 exact REn.args h (REn.nones _)
end PL
namespace PL
open PySem PySem.Spec PyProof.Rows L2

def ErrOk (X:Cx) (W:WX) (σ : L2.St) (ι : List Addr) (H:Hp) (c:Str) (p:PV) (S':Sto):Prop :=
 ∀ (ι':List Addr) (H':Hp) (Ca d:Addr) (x:V),Ext ι H ι' H'→RSt X.prog X.w X.K X.mg ι' H' S'→X.mg c = some (.ref Ca)→H' d = some (.xd [("what",x)])→Rp X.K ι' H' p x→W (.ref Ca) (some d) σ H'
theorem ErrOk.up {X:Cx} {W:WX} {σ : L2.St} {ι ι1:List Addr} {H H1:Hp} {c:Str} {p:PV} {S':Sto} (h:ErrOk X W σ ι H c p S') (e:Ext ι H ι1 H1):ErrOk X W σ ι1 H1 c p S' :=
 fun ι' H' Ca d x e' r m hd q => h ι' H' Ca d x (e.trans e') r m hd q
abbrev RR (α β : Type):=List Addr→Hp→α→β→Prop
def Pk {α β : Type} (X:Cx) (W:WX) (R:RR α β) (σ : L2.St) (Q : β→Hp→Prop) (ι : List Addr) (H:Hp) (o:Out α):Prop :=
 wp o (fun v S' => ∀ ι' H' x,Ext ι H ι' H'→RSt X.prog X.w X.K X.mg ι' H' S'→R ι' H' v x→Q x H') (ErrOk X W σ ι H)
section
variable {α β γ δ : Type} {X:Cx} {W:WX} {R:RR α β} {R':RR γ δ} {σ : L2.St} {Q Q' : β→Hp→Prop} {P : δ→Hp→Prop} {ι ι1:List Addr} {H H1:Hp} {o:Out α} {S S1:Sto}
theorem Pk.mono (h:Pk X W R σ Q ι H o) (w:∀ x H1,Q x H1→Q' x H1):Pk X W R σ Q' ι H o :=
 wp_mono h (fun v S' k ι' H' x e r q => w _ _ (k ι' H' x e r q)) fun _ _ _ k => k
theorem Pk.up (h:Pk X W R σ Q ι H o) (e:Ext ι H ι1 H1):Pk X W R σ Q ι1 H1 o :=
 wp_mono h (fun v S' k ι' H' x e' r q => k ι' H' x (e.trans e') r q) fun _ _ _ k => k.up e
theorem Pk.next {f : α→Sto→Out γ} (h:Pk X W R' σ P ι H (bnd o f)) :
  Pk X W R σ (fun x H1 => ∃ a ι1 S1,Ext ι H ι1 H1∧RSt X.prog X.w X.K X.mg ι1 H1 S1∧R ι1 H1 a x∧Pk X W R' σ P ι1 H1 (f a S1)) ι H o:=by
 unfold Pk at h
 rw [wp_bnd] at h
 exact wp_mono h (fun a S k ι' H' x e r q => ⟨a,ι',S,e,r,q,Pk.up (o:=f a S) k e⟩) fun _ _ _ k => k
end
def gE {α β : Type} (X:Cx) (W:WX) (R:RR α β) (m:EM α):L2.St→Hp→(β→Hp→Prop)→Prop:=fun σ H Q =>
 ∃ ι τ S,RSt X.prog X.w X.K X.mg ι H S∧REn X.K ι H τ σ∧Pk X W R σ Q ι H (m τ S)
abbrev rV (X:Cx):RR PV V:=Rp X.K
abbrev rB:RR Bool Bool:=fun _ _ v x => v = x
abbrev rL (X:Cx):RR (List PV) (List V):=RpL X.K
structure RE (X:Cx) (W:WX) (e:Expr) (m:EM PV):Prop where
 pe:PE X e (gE X W (rV X) m)
structure RT (X:Cx) (W:WX) (e:Expr) (m:EM Bool):Prop where
 pt:PT X e (gE X W rB m)
structure RW (X:Cx) (W:WX) (e:Expr) (m:EM Bool):Prop where
 pw:PW X e (gE X W rB m)
structure RA (X:Cx) (W:WX) (es:List Expr) (m:EM (List PV)):Prop where
 pa:PA X es (gE X W (rL X) m)
theorem pe_weak {X:Cx} {e:Expr} {t t':TE} (h:PE X e t) (w:∀ σ H Q,t' σ H Q→t σ H Q):PE X e t':=⟨fun pins s σ H Q I hh => h.run pins s σ H Q I (w σ H Q hh)⟩
theorem pt_weak {X:Cx} {e:Expr} {t t':TT} (h:PT X e t) (w:∀ σ H Q,t' σ H Q→t σ H Q):PT X e t':=⟨fun pins s σ H Q I hh => h.run pins s σ H Q I (w σ H Q hh)⟩
theorem pw_weak {X:Cx} {e:Expr} {t t':TT} (h:PW X e t) (w:∀ σ H Q,t' σ H Q→t σ H Q):PW X e t':=⟨fun wh pins s σ H Q I hh => h.run wh pins s σ H Q I (w σ H Q hh)⟩
theorem pa_weak {X:Cx} {e:List Expr} {t t':TA} (h:PA X e t) (w:∀ σ H Q,t' σ H Q→t σ H Q):PA X e t':=⟨fun pos pins s σ H Q I hh => h.run pos pins s σ H Q I (w σ H Q hh)⟩

def lift {α : Type}:Option (α × Sto)→Out α
 | some (v,S) => .ok v S
 | none => .bad
@[simp] theorem lift_some {α : Type} (v : α) (S:Sto):lift (some (v,S)) = .ok v S:=rfl
@[simp] theorem lift_none {α : Type}:lift (none:Option (α × Sto)) = .bad:=rfl
theorem pk_lift {α β : Type} {X:Cx} {W:WX} {R:RR α β} {σ : L2.St} {Q : β→Hp→Prop} {ι : List Addr} {H:Hp} {o:Option (α × Sto)} (h:Pk X W R σ Q ι H (lift o)) :
  ∃ v S',o = some (v,S')∧∀ ι' H' x,Ext ι H ι' H'→RSt X.prog X.w X.K X.mg ι' H' S'→R ι' H' v x→Q x H':=by
 cases o with
 | none => exact h.elim
 | some q => obtain ⟨v,S'⟩:=q; exact ⟨v,S',rfl,h⟩

abbrev Op2:=PV→PV→Sto→Option (PV × Sto)
def gOp (X:Cx) (f:Op2):R2:=fun x y H Q => ∃ ι S p q v S',RSt X.prog X.w X.K X.mg ι H S∧Rp X.K ι H p x∧Rp X.K ι H q y∧f p q S = some (v,S') ∧
 ∀ ι' H' z,Ext ι H ι' H'→RSt X.prog X.w X.K X.mg ι' H' S'→Rp X.K ι' H' v z→Q z H'
def binM (f:Op2) (ma mb:EM PV):EM PV:=fun τ S => bnd (ma τ S) fun p S1 => bnd (mb τ S1) fun q S2 => lift (f p q S2)
section
variable {X:Cx} {W:WX} {a b c e:Expr} {ma mb mc:EM PV} {pos:Pos} {f f':Op2}
theorem bin_read (σ : L2.St) (H:Hp) (Q:VK) (h:gE X W (rV X) (binM f ma mb) σ H Q):tOp (gOp X f) (gE X W (rV X) ma) (gE X W (rV X) mb) σ H Q:=by
 obtain ⟨ι,τ,S,r,ρ,pk⟩:=h
 refine ⟨ι,τ,S,r,ρ,pk.next.mono ?_⟩
 rintro x H1 ⟨p,ι1,S1,e1,r1,q1,pk1⟩
 refine ⟨ι1,τ,S1,r1,ρ.up e1,pk1.next.mono ?_⟩
 rintro y H2 ⟨q,ι2,S2,e2,r2,q2,pk2⟩
 obtain ⟨v,S',hf,k⟩:=pk_lift pk2
 exact ⟨ι2,S2,p,q,v,S',r2,q1.up e2,q2,hf,k⟩
theorem re_bin {op:Operator} (ho:OpR X (binaryOp op) (gOp X f)) (ha:RE X W a ma) (hb:RE X W b mb):RE X W (.BinOp a op b pos) (binM f ma mb) :=
 ⟨pe_weak (pe_op ho ha.pe hb.pe) bin_read⟩
theorem re_cmp {op:CmpOp} (ho:OpR X (compareOp op) (gOp X f)) (ha:RE X W a ma) (hb:RE X W b mb) (hm:behindInMarks op b = false:=by first | exact nomark _ | rfl):RE X W (.Compare a [op] [b] pos) (binM f ma mb) :=
 ⟨pe_weak (pe_cmpR ho ha.pe hb.pe hm) bin_read⟩
def blM (m:EM PV):EM Bool:=fun τ S => bnd (m τ S) fun v S1 => match v with | .bl b => .ok b S1 | _ => .bad
theorem bl_read {m:EM PV} (σ : L2.St) (H:Hp) (Q:Bool→Hp→Prop) (h:gE X W rB (blM m) σ H Q):gE X W (rV X) m σ H (fun x H1 => ∃ k,x = .bl k∧Q k H1):=by
 obtain ⟨ι,τ,S,r,ρ,pk⟩:=h
 refine ⟨ι,τ,S,r,ρ,pk.next.mono ?_⟩
 rintro x H1 ⟨p,ι1,S1,e1,r1,q1,pk1⟩
 cases p with
 | bl k => exact ⟨k,q1,pk1 ι1 H1 k .refl r1 rfl⟩
 | _ => exact pk1.elim
theorem rt_cmp {op:CmpOp} (ho:OpR X (compareOp op) (gOp X f)) (ha:RE X W a ma) (hb:RE X W b mb) (hm:behindInMarks op b = false:=by first | exact nomark _ | rfl):RT X W (.Compare a [op] [b] pos) (blM (binM f ma mb)) :=
 ⟨pt_weak (pt_cmpR ho ha.pe hb.pe hm) fun σ H Q h => bin_read σ H _ (bl_read σ H Q h)⟩
def chainM (f f':Op2) (ma mb mc:EM PV):EM PV:=fun τ S => bnd (ma τ S) fun p S1 => bnd (mb τ S1) fun q S2 => bnd (lift (f p q S2)) fun v S3 =>
 match v with | .bl true => bnd (mc τ S3) fun z S4 => lift (f' q z S4) | .bl false => .ok (.bl false) S3 | _ => .bad
theorem chain_read (σ : L2.St) (H:Hp) (Q:VK) (h:gE X W (rV X) (chainM f f' ma mb mc) σ H Q):tChain (gOp X f) (gOp X f') (gE X W (rV X) ma) (gE X W (rV X) mb) (gE X W (rV X) mc) σ H Q:=by
 obtain ⟨ι,τ,S,r,ρ,pk⟩:=h
 refine ⟨ι,τ,S,r,ρ,pk.next.mono ?_⟩
 rintro x H1 ⟨p,ι1,S1,e1,r1,q1,pk1⟩
 refine ⟨ι1,τ,S1,r1,ρ.up e1,pk1.next.mono ?_⟩
 rintro y H2 ⟨q,ι2,S2,e2,r2,q2,pk2⟩
 obtain ⟨v,S',hf,k⟩:=pk_lift (R:=rV X) (Q:=fun z H3 => ∃ a ι3 S3,Ext ι2 H2 ι3 H3∧RSt X.prog X.w X.K X.mg ι3 H3 S3∧rV X ι3 H3 a z∧_) pk2.next
 refine ⟨ι2,S2,p,q,v,S',r2,q1.up e2,q2,hf,fun ι3 H3 z e3 r3 qz => ?_⟩
 obtain ⟨v3,ι4,S4,e4,r4,q4,pk4⟩:=k ι3 H3 z e3 r3 qz
 cases v3 with
 | bl k =>
  refine ⟨k,q4,?_⟩
  cases k with
  | false => exact pk4 _ _ _ .refl r4 rfl
  | true =>
   rw [if_pos rfl]
   refine ⟨ι4,τ,S4,r4,((ρ.up e1).up e2).up e4,pk4.next.mono ?_⟩
   rintro w H5 ⟨z5,ι5,S5,e5,r5,q5,pk5⟩
   obtain ⟨v6,S6,hf6,k6⟩:=pk_lift pk5
   exact ⟨ι5,S5,q,z5,v6,S6,r5,(q2.up e4).up e5,q5,hf6,k6⟩
 | _ => exact pk4.elim
theorem re_chain {op op':CmpOp} (ho:OpR X (compareOp op) (gOp X f)) (ho':OpR X (compareOp op') (gOp X f')) (ha:RE X W a ma) (hb:RE X W b mb) (hc:RE X W c mc) (hm:lastMarks [op,op'] [b,c] = false:=by rfl)
  : RE X W (.Compare a [op,op'] [b,c] pos) (chainM f f' ma mb mc) :=
 ⟨pe_weak (pe_chain ho ho' ha.pe hb.pe hc.pe hm) chain_read⟩
theorem rt_chain {op op':CmpOp} (ho:OpR X (compareOp op) (gOp X f)) (ho':OpR X (compareOp op') (gOp X f')) (ha:RE X W a ma) (hb:RE X W b mb) (hc:RE X W c mc) (hm:lastMarks [op,op'] [b,c] = false:=by rfl)
  : RT X W (.Compare a [op,op'] [b,c] pos) (blM (chainM f f' ma mb mc)) :=
 ⟨pt_weak (pt_chain ho ho' ha.pe hb.pe hc.pe hm) fun σ H Q h => chain_read σ H _ (bl_read σ H Q h)⟩
end
end PL
namespace PL
open PySem PySem.Spec PyProof.Rows L2
section
variable {X:Cx} {W:WX} {a b c e:Expr} {es rest:List Expr} {ma mb mc:EM PV} {tA tB':EM Bool} {mas:EM (List PV)} {pos:Pos}
def vV (i:Nat):EM PV:=fun τ S => match τ[i]? with | some (some v) => .ok v S | _ => .bad
def cV (v:PV):EM PV:=fun _ S => .ok v S
@[simp] theorem cV_ap (v:PV) (τ : En) (S:Sto):cV v τ S = .ok v S:=rfl
theorem re_var (i:Nat) {x:Str} (hN:X.N[i]? = some x:=by rfl) (hv:Vis X.env.scope x:=by first | exact Or.inl rfl | exact Or.inr (Or.inl rfl) | exact Or.inr (Or.inr rfl)) (hd:(x == ("__debug__" : Str)) = false:=by decide)
  (hcd:(x == ("__classdict__" : Str)) = false:=by decide):RE X W (.Name x pos) (vV i):=by
 refine ⟨pe_weak (pe_var hN hv hd hcd) fun σ H Q h => ?_⟩
 obtain ⟨ι,τ,S,r,ρ,pk⟩:=h
 cases hτ : τ[i]? with
 | none => simp only [vV,hτ] at pk; exact pk.elim
 | some o =>
  cases o with
  | none => simp only [vV,hτ] at pk; exact pk.elim
  | some v =>
   simp only [vV,hτ] at pk
   obtain ⟨x,h1,h2⟩:=ρ.get hτ
   exact ⟨x,h1,pk _ _ _ .refl r h2⟩
theorem re_cst {v:PV} {w:V} {e:Expr} (h:PE X e (tC w)) (r0:∀ ι H,Rp X.K ι H v w):RE X W e (cV v):=by
 refine ⟨pe_weak h fun σ H Q h => ?_⟩
 obtain ⟨ι,τ,S,r,ρ,pk⟩:=h
 exact pk _ _ _ .refl r (r0 _ _)
theorem re_int {i j}:RE X W (.Constant (.int i) j pos) (cV (.int i)):=re_cst pe_int fun _ _ => rfl
theorem re_bl {i j}:RE X W (.Constant (.bool i) j pos) (cV (.bl i)):=re_cst pe_bl fun _ _ => rfl
theorem re_non {j}:RE X W (.Constant .none j pos) (cV .non):=re_cst pe_non fun _ _ => rfl
theorem re_str {i j}:RE X W (.Constant (.str i) j pos) (cV (.str i)):=re_cst pe_str fun _ _ => rfl
theorem re_glob {x:Str} {v:PV} {w:V} {u:Value} (hg:Gl X x) (hm:X.mg x = some u) (r:RelV w u) (r0:∀ ι H,Rp X.K ι H v w) (hd:(x == ("__debug__" : Str)) = false:=by decide):RE X W (.Name x pos) (cV v):=re_cst (pe_glob hg hm r hd) r0
def isNon:PV→Bool
 | .non => true
 | _ => false
def isNM (m:EM PV):EM PV:=fun τ S => bnd (m τ S) fun p S1 => .ok (.bl (isNon p)) S1
theorem rp_non {K:PySem.W.Frag} {ι : List Addr} {H:Hp} {p:PV} {x:V} (h:Rp K ι H p x):decide (x = .non) = isNon p:=by
 cases p with
 | non => have h:x = _:=h; subst h; rfl
 | bl b => have h:x = _:=h; subst h; rfl
 | int b => have h:x = _:=h; subst h; rfl
 | str b => have h:x = _:=h; subst h; rfl
 | tup xs => obtain ⟨_,_,rfl,_⟩:=h; rfl
 | fls xs => obtain ⟨_,_,rfl,_⟩:=h; rfl
 | loc l => obtain ⟨_,rfl,_⟩:=h; rfl
 | fn l u m => cases h.1; rfl
theorem isN_read (σ : L2.St) (H:Hp) (Q:VK) (h:gE X W (rV X) (isNM ma) σ H Q):tIsN (gE X W (rV X) ma) σ H Q:=by
 obtain ⟨ι,τ,S,r,ρ,pk⟩:=h
 refine ⟨ι,τ,S,r,ρ,pk.next.mono ?_⟩
 rintro x H1 ⟨p,ι1,S1,e1,r1,q1,pk1⟩
 exact pk1 _ _ _ .refl r1 (by rw [rp_non q1]; rfl)
theorem re_isN {j pos'} (ha:RE X W a ma):RE X W (.Compare a [.Is] [.Constant .none j pos'] pos) (isNM ma):=⟨pe_weak (pe_cmp (pc_isN ha.pe)) isN_read⟩
theorem rt_isN {j pos'} (ha:RE X W a ma):RT X W (.Compare a [.Is] [.Constant .none j pos'] pos) (blM (isNM ma)):=⟨pt_weak (pt_cmp (pc_isN ha.pe)) fun σ H Q h => isN_read σ H _ (bl_read σ H Q h)⟩
def truP (p:PV) (S:Sto):Option Bool:=match p with
 | .non => some false
 | .bl b => some b
 | .int i => some (i != 0)
 | .str x => if x.length ≤ 16777216 then some ((x.length:Int) != 0) else none
 | .tup xs => some (!xs.isEmpty)
 | .fls xs => some (!xs.isEmpty)
 | .loc l => match S[l]? with
  | some (.lst xs) => some (!xs.isEmpty)
  | some (.dct kvs) => some (!kvs.isEmpty)
  | _ => none
 | .fn _ _ _ => none
def truM (m:EM PV):EM Bool:=fun τ S => bnd (m τ S) fun p S1 => match truP p S1 with | some b => .ok b S1 | none => .bad
theorem RpL.isEmpty {K:PySem.W.Frag} {ι : List Addr} {H:Hp} {xs:List PV} {vs:List V} (h:RpL K ι H xs vs):xs.isEmpty = vs.isEmpty:=by
 have:=h.length
 cases xs <;> cases vs <;> simp_all
theorem RpF.isEmpty {K:PySem.W.Frag} {ι : List Addr} {H:Hp} {κ : Type} {xs:List (κ × PV)} {vs:List (κ × V)} (h:RpF K ι H xs vs):xs.isEmpty = vs.isEmpty:=by
 have:=h.length
 cases xs <;> cases vs <;> simp_all
theorem tru_ok' {ι : List Addr} {H:Hp} {S:Sto} {p:PV} {x:V} {b:Bool} (r:RSt X.prog X.w X.K X.mg ι H S) (q:Rp X.K ι H p x) (h:truP p S = some b):TruV X.K x H b:=by
 cases p with
 | non => have q:x = _:=q; subst q; have h:some false = some b:=h; cases h; exact rfl
 | bl k => have q:x = _:=q; subst q; have h:some k = some b:=h; cases h; exact rfl
 | int i => have q:x = _:=q; subst q; have h:some (i != 0) = some b:=h; cases h; exact rfl
 | str y =>
  have q:x = _:=q
  subst q
  unfold truP at h
  simp only at h
  split at h
  ·rename_i hl
   cases h
   exact ⟨by rw [sizeLine_eq]; exact hl,rfl⟩
  ·cases h
 | tup xs =>
  obtain ⟨a,vs,rfl,h1,h2⟩:=q
  have h:some (!xs.isEmpty) = some b:=h
  cases h
  exact .inr (.inl ⟨vs,h1.seq,by rw [h2.isEmpty]⟩)
 | fls xs =>
  obtain ⟨a,vs,rfl,h1,h2⟩:=q
  have h:some (!xs.isEmpty) = some b:=h
  cases h
  exact .inl ⟨vs,h1.seq,by rw [h2.isEmpty]⟩
 | loc l =>
  obtain ⟨a,rfl,h1⟩:=q
  unfold truP at h
  simp only at h
  cases hS:S[l]? with
  | none => rw [hS] at h; cases h
  | some o =>
   rw [hS] at h
   have ho:=r.obj l a o h1 hS
   cases o with
   | lst xs =>
    cases h
    obtain ⟨vs,h3,h4⟩:=ho
    exact .inl ⟨vs,.of h3,by rw [h4.isEmpty]⟩
   | dct kvs =>
    cases h
    obtain ⟨vs,h3,h4⟩:=ho
    exact .inr (.inr ⟨vs,h3,by rw [h4.isEmpty]⟩)
   | ins C fs => cases h
   | dtp kvs => cases h
   | tab nm kvs => cases h
   | exc C p => cases h
   | ndt kvs => cases h
 | fn l u m => cases h
theorem rt_tru (ha:RE X W a ma) (he:∀ whole,isTrue a X.env whole = (do let v ← whole; standAt a.pos; holding [v] (truthy v)):=by intro _; rfl):RT X W a (truM ma):=by
 refine ⟨pt_weak (pt_truth ha.pe he) fun σ H Q h => ?_⟩
 obtain ⟨ι,τ,S,r,ρ,pk⟩:=h
 refine ⟨ι,τ,S,r,ρ,pk.next.mono ?_⟩
 rintro x H1 ⟨p,ι1,S1,e1,r1,q1,pk1⟩
 cases ht:truP p S1 with
 | none => rw [ht] at pk1; exact pk1.elim
 | some k =>
  rw [ht] at pk1
  exact ⟨k,tru_ok' r1 q1 ht,pk1 _ _ _ .refl r1 rfl⟩
def andM (s t:EM Bool):EM Bool:=fun τ S => bnd (s τ S) fun k S1 => if k = true then t τ S1 else .ok false S1
def orM (s t:EM Bool):EM Bool:=fun τ S => bnd (s τ S) fun k S1 => if k = true then .ok true S1 else t τ S1
def notM (s:EM Bool):EM Bool:=fun τ S => bnd (s τ S) fun k S1 => .ok (!k) S1
theorem rt_of (h:RW X W e tA):RT X W e tA:=⟨h.pw.pt⟩
theorem rw_and1 (ha:RT X W a tA):RW X W (.BoolOp .And [a] pos) tA:=⟨pw_and1 ha.pt⟩
theorem rw_or1 (ha:RT X W a tA):RW X W (.BoolOp .Or [a] pos) tA:=⟨pw_or1 ha.pt⟩
theorem rw_and (ha:RT X W a tA) (hb:RW X W (.BoolOp .And (b :: rest) pos) tB'):RW X W (.BoolOp .And (a :: b :: rest) pos) (andM tA tB'):=by
 refine ⟨pw_weak (pw_and ha.pt hb.pw) fun σ H Q h => ?_⟩
 obtain ⟨ι,τ,S,r,ρ,pk⟩:=h
 refine ⟨ι,τ,S,r,ρ,pk.next.mono ?_⟩
 rintro k H1 ⟨k',ι1,S1,e1,r1,q1,pk1⟩
 have q1:k' = k:=q1
 subst q1
 cases k' with
 | true => rw [if_pos rfl] at pk1 ⊢; exact ⟨ι1,τ,S1,r1,ρ.up e1,pk1⟩
 | false => exact pk1 _ _ _ .refl r1 rfl
theorem rw_or (ha:RT X W a tA) (hb:RW X W (.BoolOp .Or (b :: rest) pos) tB'):RW X W (.BoolOp .Or (a :: b :: rest) pos) (orM tA tB'):=by
 refine ⟨pw_weak (pw_or ha.pt hb.pw) fun σ H Q h => ?_⟩
 obtain ⟨ι,τ,S,r,ρ,pk⟩:=h
 refine ⟨ι,τ,S,r,ρ,pk.next.mono ?_⟩
 rintro k H1 ⟨k',ι1,S1,e1,r1,q1,pk1⟩
 have q1:k' = k:=q1
 subst q1
 cases k' with
 | true => rw [if_pos rfl] at pk1 ⊢; exact pk1 _ _ _ .refl r1 rfl
 | false => exact ⟨ι1,τ,S1,r1,ρ.up e1,pk1⟩
theorem rt_not (ha:RT X W a tA):RT X W (.UnaryOp .Not a pos) (notM tA):=by
 refine ⟨pt_weak (pt_not ha.pt) fun σ H Q h => ?_⟩
 obtain ⟨ι,τ,S,r,ρ,pk⟩:=h
 refine ⟨ι,τ,S,r,ρ,pk.next.mono ?_⟩
 rintro k H1 ⟨k',ι1,S1,e1,r1,q1,pk1⟩
 have q1:k' = k:=q1
 subst q1
 exact pk1 _ _ _ .refl r1 rfl
def andV (s t:EM PV):EM PV:=fun τ S => bnd (s τ S) fun v S1 => match v with | .bl true => t τ S1 | .bl false => .ok (.bl false) S1 | _ => .bad
def notV (s:EM PV):EM PV:=fun τ S => bnd (s τ S) fun v S1 => match v with | .bl k => .ok (.bl (!k)) S1 | _ => .bad
theorem re_one {op} (h:RE X W a ma):RE X W (.BoolOp op [a] pos) ma:=⟨pe_one h.pe⟩
theorem re_and (ha:RE X W a ma) (hb:RE X W (.BoolOp .And (b :: rest) pos) mb):RE X W (.BoolOp .And (a :: b :: rest) pos) (andV ma mb):=by
 refine ⟨pe_weak (pe_and ha.pe hb.pe) fun σ H Q h => ?_⟩
 obtain ⟨ι,τ,S,r,ρ,pk⟩:=h
 refine ⟨ι,τ,S,r,ρ,pk.next.mono ?_⟩
 rintro x H1 ⟨p,ι1,S1,e1,r1,q1,pk1⟩
 cases p with
 | bl k =>
  refine ⟨k,q1,?_⟩
  cases k with
  | true => exact ⟨ι1,τ,S1,r1,ρ.up e1,pk1⟩
  | false => exact pk1 _ _ _ .refl r1 rfl
 | _ => exact pk1.elim
theorem re_not (ha:RE X W a ma):RE X W (.UnaryOp .Not a pos) (notV ma):=by
 refine ⟨pe_weak (pe_not ha.pe) fun σ H Q h => ?_⟩
 obtain ⟨ι,τ,S,r,ρ,pk⟩:=h
 refine ⟨ι,τ,S,r,ρ,pk.next.mono ?_⟩
 rintro x H1 ⟨p,ι1,S1,e1,r1,q1,pk1⟩
 cases p with
 | bl k => exact ⟨k,q1,pk1 _ _ _ .refl r1 rfl⟩
 | _ => exact pk1.elim
def orTM (s t:EM PV):EM PV:=fun τ S => bnd (s τ S) fun v S1 => match truP v S1 with | some true => .ok v S1 | some false => t τ S1 | none => .bad
theorem re_orT (ha:RE X W a ma) (hb:RE X W (.BoolOp .Or (b :: rest) pos) mb):RE X W (.BoolOp .Or (a :: b :: rest) pos) (orTM ma mb):=by
 refine ⟨pe_weak (pe_orT ha.pe hb.pe) fun σ H Q h => ?_⟩
 obtain ⟨ι,τ,S,r,ρ,pk⟩:=h
 refine ⟨ι,τ,S,r,ρ,pk.next.mono ?_⟩
 rintro x H1 ⟨p,ι1,S1,e1,r1,q1,pk1⟩
 cases ht:truP p S1 with
 | none => rw [ht] at pk1; exact pk1.elim
 | some k =>
  rw [ht] at pk1
  refine ⟨k,tru_ok' r1 q1 ht,?_⟩
  cases k with
  | true => exact pk1 _ _ _ .refl r1 q1
  | false => exact ⟨ι1,τ,S1,r1,ρ.up e1,pk1⟩
def ifM (c:EM Bool) (s t:EM PV):EM PV:=fun τ S => bnd (c τ S) fun k S1 => if k = true then s τ S1 else t τ S1
theorem re_if (hc:RT X W c tA) (ha:RE X W a ma) (hb:RE X W b mb):RE X W (.IfExp c a b pos) (ifM tA ma mb):=by
 refine ⟨pe_weak (pe_ifExp hc.pt ha.pe hb.pe) fun σ H Q h => ?_⟩
 obtain ⟨ι,τ,S,r,ρ,pk⟩:=h
 refine ⟨ι,τ,S,r,ρ,pk.next.mono ?_⟩
 rintro k H1 ⟨k',ι1,S1,e1,r1,q1,pk1⟩
 have q1:k' = k:=q1
 subst q1
 cases k' with
 | true => exact ⟨ι1,τ,S1,r1,ρ.up e1,pk1⟩
 | false => exact ⟨ι1,τ,S1,r1,ρ.up e1,pk1⟩
def aN:EM (List PV):=fun _ S => .ok [] S
def aC (m:EM PV) (ms:EM (List PV)):EM (List PV):=fun τ S => bnd (m τ S) fun p S1 => bnd (ms τ S1) fun ps S2 => .ok (p :: ps) S2
theorem ra_nil:RA X W [] aN:=by
 refine ⟨pa_weak pa_nil fun σ H Q h => ?_⟩
 obtain ⟨ι,τ,S,r,ρ,pk⟩:=h
 exact pk _ _ _ .refl r rfl
theorem ra_cons (ha:RE X W e ma) (hr:RA X W es mas) (hs:starEach (e :: es) X.env = (false,eval e X.env) :: starEach es X.env:=by rfl):RA X W (e :: es) (aC ma mas):=by
 refine ⟨pa_weak (pa_cons ha.pe hr.pa hs) fun σ H Q h => ?_⟩
 obtain ⟨ι,τ,S,r,ρ,pk⟩:=h
 refine ⟨ι,τ,S,r,ρ,pk.next.mono ?_⟩
 rintro x H1 ⟨p,ι1,S1,e1,r1,q1,pk1⟩
 refine ⟨ι1,τ,S1,r1,ρ.up e1,pk1.next.mono ?_⟩
 rintro xs H2 ⟨ps,ι2,S2,e2,r2,q2,pk2⟩
 exact pk2 _ _ _ .refl r2 ⟨x,xs,rfl,q1.up e2,q2⟩
def tupM (ms:EM (List PV)):EM PV:=fun τ S => bnd (ms τ S) fun ps S1 => if ps.length ≤ 16777216 then .ok (.tup ps) S1 else .bad
def lstM (ms:EM (List PV)):EM PV:=fun τ S => bnd (ms τ S) fun ps S1 => if ps.length ≤ 16777216 then .ok (.loc S1.length) (S1 ++ [.lst ps]) else .bad
theorem re_tup {x1} (h:RA X W es mas):RE X W (.Tuple es x1 pos) (tupM mas):=by
 refine ⟨pe_weak (PLz.pe_tupZ h.pa) fun σ H Q h => ?_⟩
 obtain ⟨ι,τ,S,r,ρ,pk⟩:=h
 refine ⟨ι,τ,S,r,ρ,pk.next.mono ?_⟩
 rintro xs H1 ⟨ps,ι1,S1,e1,r1,q1,pk1⟩
 split at pk1
 ·rename_i hl
  refine ⟨by rw [← q1.length,sizeLine_eq]; exact hl,fun p hp o ho => ?_⟩
  obtain ⟨E,r2⟩:=r1.tup (ho:=.frz o (.tup xs)) hp
  exact pk1 _ _ _ E r2 ⟨p,xs,rfl,.inl ⟨o,upd_same,ho⟩,q1.up E⟩
 ·exact pk1.elim
theorem re_lst (h:RA X W es mas):RE X W (.List es pos) (lstM mas):=by
 refine ⟨pe_weak (pe_lst h.pa) fun σ H Q h => ?_⟩
 obtain ⟨ι,τ,S,r,ρ,pk⟩:=h
 refine ⟨ι,τ,S,r,ρ,pk.next.mono ?_⟩
 rintro xs H1 ⟨ps,ι1,S1,e1,r1,q1,pk1⟩
 split at pk1
 ·rename_i hl
  refine ⟨by rw [← q1.length,sizeLine_eq]; exact hl,fun p hp => ?_⟩
  obtain ⟨E,r2,q2⟩:=r1.new_lst hp q1
  exact pk1 _ _ _ E r2 q2
 ·exact pk1.elim
def itemsP (p:PV) (S:Sto):Option (List PV):=match p with
 | .tup xs => some xs
 | .fls xs => some xs
 | .loc l => match S[l]? with | some (.lst xs) => some xs | _ => none
 | _ => none
def keyP:PV→Option Key
 | .int i => some (.inl i)
 | .str x => some (.inr x)
 | _ => none
def getP:Op2:=fun p q S => match p,q with
 | .tup xs,.int i => (atI xs i).map fun v => (v,S)
 | .fls xs,.int i => (atI xs i).map fun v => (v,S)
 | .str x,.int i => if x.length ≤ 16777216 then (atI x.cps.toList i).map fun c => (.str ⟨#[c]⟩,S) else none
 | .loc l,q => match S[l]?,q with
  | some (.lst xs),.int i => (atI xs i).map fun v => (v,S)
  | _,_ => none
 | _,_ => none
theorem RpL.at {K:PySem.W.Frag} {ι : List Addr} {H:Hp} {xs:List PV} {vs:List V} {i:Int} {x:PV} (h:RpL K ι H xs vs) (e:atI xs i = some x):∃ v,atI vs i = some v∧Rp K ι H x v:=by
 unfold atI at e ⊢
 rw [← h.length]
 cases q:ixN xs.length i with
 | none => rw [q] at e; cases e
 | some j =>
  rw [q] at e
  exact h.get (i:=j) e
end
end PL
namespace PL
open PySem PySem.Spec PyProof.Rows L2

mutual
def toD:PV→Option PyData
 | .non => some .none
 | .bl b => some (.bool b)
 | .int i => some (.int i)
 | .str x => some (.str x)
 | .tup xs => (toDL xs).map .tuple
 | .fls xs => (toDL xs).map .list
 | .loc _ => none
 | .fn _ _ _ => none
def toDL:List PV→Option (List PyData)
 | [] => some []
 | x :: xs => (toD x).bind fun d => (toDL xs).map fun ds => d :: ds
end
def toDS (S:Sto):PV→Option PyData
 | .loc l => match S[l]? with | some (.lst xs) => (toDL xs).map .list | _ => none
 | p => toD p
section
variable {K:PySem.W.Frag} {mg:Str→Option Value} {ι : List Addr} {H:Hp}
mutual
theorem toD_dp:∀ (p:PV) (d:PyData) (v:V),toD p = some d→Rp K ι H p v→Dp K H v d
 | .non,d,v,h,r => by cases h; cases (show v = _ from r); exact .non
 | .bl b,d,v,h,r => by cases h; cases (show v = _ from r); exact .bl b
 | .int b,d,v,h,r => by cases h; cases (show v = _ from r); exact .int b
 | .str b,d,v,h,r => by cases h; cases (show v = _ from r); exact .str b
 | .tup xs,d,v,h,r => by
  obtain ⟨a,vs,rfl,h1,h2⟩:=r
  unfold toD at h
  cases q:toDL xs with
  | none => rw [q] at h; cases h
  | some ds =>
   rw [q] at h
   cases h
   exact .tup h1.seq (toDL_dp xs ds vs q h2)
 | .fls xs,d,v,h,r => by
  obtain ⟨a,vs,rfl,h1,h2⟩:=r
  unfold toD at h
  cases q:toDL xs with
  | none => rw [q] at h; cases h
  | some ds =>
   rw [q] at h
   cases h
   exact .lst h1.seq (toDL_dp xs ds vs q h2)
 | .loc _,d,v,h,r => by cases h
 | .fn _ _ _,d,v,h,r => by cases h
theorem toDL_dp:∀ (xs:List PV) (ds:List PyData) (vs:List V),toDL xs = some ds→RpL K ι H xs vs→DpAll K H vs ds
 | [],ds,vs,h,r => by cases h; cases (show vs = _ from r); exact .nil
 | x :: xs,ds,vs,h,r => by
  obtain ⟨v,w,rfl,h1,h2⟩:=r
  unfold toDL at h
  cases q:toD x with
  | none => rw [q] at h; cases h
  | some d =>
   cases q2:toDL xs with
   | none => rw [q,q2] at h; cases h
   | some es =>
    rw [q,q2] at h
    cases h
    exact .cons (toD_dp x d v q h1) (toDL_dp xs es w q2 h2)
end
theorem toDS_dp {S:Sto} (r0:RSt ΩP Ωw K mg ι H S):∀ (p:PV) (d:PyData) (v:V),toDS S p = some d→Rp K ι H p v→Dp K H v d:=by
 intro p d v h r
 cases p with
 | loc l =>
  obtain ⟨a,rfl,h1⟩:=r
  unfold toDS at h
  simp only at h
  cases hS:S[l]? with
  | none => rw [hS] at h; cases h
  | some o =>
   rw [hS] at h
   cases o with
   | lst xs =>
    obtain ⟨vs,h3,h4⟩:=r0.obj l a _ h1 hS
    cases q:toDL xs with
    | none => simp only [q] at h; cases h
    | some ds =>
     simp only [q] at h
     cases h
     exact .lst (.of h3) (toDL_dp xs ds vs q h4)
   | dct _ => cases h
   | ins _ _ => cases h
   | dtp _ => cases h
   | tab _ _ => cases h
   | exc _ _ => cases h
   | ndt _ => cases h
 | _ => exact toD_dp _ d v h r
end

def intOp (f:Int→Int→Option PV):Op2:=fun p q S => match p,q with
 | .int i,.int j => (f i j).map fun v => (v,S)
 | _,_ => none
section
variable {X:Cx}
theorem op_intOp {g:Value→Value→Sem Value} {f:Int→Int→Option PV} {r:R2} (ho:OpR X g r) (h:∀ i j v H Q,f i j = some v→(∃ w,(∀ ι H',Rp X.K ι H' v w)∧(Q w H→r (.int i) (.int j) H Q))):OpR X g (gOp X (intOp f)):=by
 intro pins s σ H x y v u Q I rx ry ⟨ι,S,p,q,z,S',rs,rp,rq,hf,k⟩
 unfold intOp at hf
 split at hf
 ·rename_i i j
  cases hz:f i j with
  | none => rw [hz] at hf; cases hf
  | some w =>
   rw [hz] at hf
   cases hf
   cases (show x = _ from rp)
   cases (show y = _ from rq)
   obtain ⟨w',h1,h2⟩:=h i j _ H Q hz
   exact ho pins s σ H _ _ v u Q I rx ry (h2 (k ι H w' .refl rs (h1 _ _)))
 ·cases hf
def subP:Op2:=intOp fun i j => some (.int (i - j))
def mulP:Op2:=fun p q S => match p,q with
 | .int i,.int j => if (-(2 ^ 64) < i∧i < 2 ^ 64) ∨ (-(2 ^ 64) < j∧j < 2 ^ 64) then some (.int (i * j),S) else none
 | .str x,.int n => if 0 ≤ n∧n ≤ 1000000∧x.length ≤ 16777216∧x.length * n.toNat ≤ 16777216 then some (.str (Txt.mul x n),S) else none
 | _,_ => none
theorem mulOk_of {x:Str} {n:Int} (h0:0 ≤ n) (h1:n ≤ 1000000) (h2:x.length ≤ 16777216) (h3:x.length * n.toNat ≤ 16777216):MulOk x n:=by
 refine ⟨by simp; omega,fun hn _ => ?_,fun _ _ => ?_⟩
 ·have:(16777216:Int) ≤ (2 ^ 63 - 1) / n:=by
   rw [Int.le_ediv_iff_mul_le (by omega)]
   omega
  omega
 ·simp [Builtin.Str.tooLong,sizeLine_eq]; exact h3
def fdivP:Op2:=intOp fun i j => if 0 < j∧j.natAbs < 1267650600228229401496703205376 then some (.int (i / j)) else none
def modP:Op2:=intOp fun i j => if 0 < j then some (.int (i % j)) else none
def powP:Op2:=intOp fun i j => if 0 ≤ j∧j ≤ 1000000∧i.natAbs < 2 ^ 64 then some (.int (i ^ j.toNat)) else none
theorem og_sub:OpR X (binaryOp .Sub) (gOp X subP):=op_intOp op_sub fun i j v H Q h => by cases h; exact ⟨_,fun _ _ => rfl,fun q => ⟨i,j,rfl,rfl,q⟩⟩
theorem og_mul:OpR X (binaryOp .Mult) (gOp X mulP):=by
 intro pins s σ H x y v u Q I rx ry ⟨ι,S,p,q,z,S',rs,rp,rq,hf,k⟩
 unfold mulP at hf
 split at hf
 ·split at hf
  ·rename_i c
   cases hf
   cases (show x = _ from rp)
   cases (show y = _ from rq)
   exact op_mul pins s σ H _ _ v u Q I rx ry ⟨_,_,rfl,rfl,c,k ι H _ .refl rs rfl⟩
  ·cases hf
 ·split at hf
  ·rename_i x n c
   cases hf
   cases (show _ = _ from rp)
   cases (show y = _ from rq)
   obtain ⟨t,rfl⟩:=rx
   obtain ⟨t',rfl⟩:=ry
   exact SB.mul (mulOk_of c.1 c.2.1 c.2.2.1 c.2.2.2) fun t' tk => ⟨.str (Txt.mul x n),H,I.tok _,⟨_,rfl⟩,k ι H _ .refl rs rfl⟩
  ·cases hf
 ·cases hf
theorem og_fdiv:OpR X (binaryOp .FloorDiv) (gOp X fdivP):=op_intOp op_fdivW fun i j v H Q h => by
 split at h
 ·rename_i c
  cases h
  exact ⟨_,fun _ _ => rfl,fun q => ⟨i,j,rfl,rfl,wide_div (b:=100) c.1 c.2 (by decide) (by decide),q⟩⟩
 ·cases h
theorem og_mod:OpR X (binaryOp .Mod) (gOp X modP):=op_intOp op_mod fun i j v H Q h => by
 split at h
 ·rename_i c
  cases h
  exact ⟨_,fun _ _ => rfl,fun q => ⟨i,j,rfl,rfl,c,q⟩⟩
 ·cases h
theorem og_pow:OpR X (binaryOp .Pow) (gOp X powP):=op_intOp op_pow fun i j v H Q h => by
 split at h
 ·rename_i c
  cases h
  exact ⟨_,fun _ _ => rfl,fun q => ⟨i,j,rfl,rfl,c,q⟩⟩
 ·cases h
def addP:Op2:=fun p q S => match p,q with
 | .int i,.int j => some (.int (i + j),S)
 | .str a,.str b => if a.length + b.length ≤ 16777216 then some (.str (a ++ b),S) else none
 | .tup a,.tup b => if a.length + b.length ≤ 16777216 then some (.tup (a ++ b),S) else none
 | .loc l,.loc k => match S[l]?,S[k]? with
  | some (.lst a),some (.lst b) => if a.length + b.length ≤ 16777216 then some (.loc S.length,S ++ [.lst (a ++ b)]) else none
  | _,_ => none
 | _,_ => none
theorem RpL.nil_iff {K:PySem.W.Frag} {ι : List Addr} {H:Hp} {xs:List PV} {vs:List V} (h:RpL K ι H xs vs):vs = []↔xs = []:=by
 have:=h.length
 cases xs <;> cases vs <;> simp_all
theorem og_add:OpR X (binaryOp .Add) (gOp X addP):=by
 intro pins s σ H x y v u Q I rx ry ⟨ι,S,p,q,z,S',rs,rp,rq,hf,k⟩
 unfold addP at hf
 split at hf
 ·cases hf
  cases (show x = _ from rp)
  cases (show y = _ from rq)
  exact op_add pins s σ H _ _ v u Q I rx ry ⟨_,_,rfl,rfl,k ι H _ .refl rs rfl⟩
 ·split at hf
  ·rename_i hl
   cases hf
   cases (show x = _ from rp)
   cases (show y = _ from rq)
   exact op_add_str pins s σ H _ _ v u Q I rx ry ⟨_,_,rfl,rfl,by rw [sizeLine_eq]; exact hl,k ι H _ .refl rs rfl⟩
  ·cases hf
 ·split at hf
  ·rename_i a b hl
   cases hf
   obtain ⟨aa,vs,rfl,h1,h2⟩:=rp
   obtain ⟨bb,ws,rfl,h3,h4⟩:=rq
   refine PLz.op_catZ pins s σ H _ _ v u Q I rx ry ⟨aa,bb,vs,ws,rfl,rfl,h1.seq,h3.seq,by rw [← h2.length,← h4.length,sizeLine_eq]; exact hl,fun e => ?_,fun _ e => ?_,fun _ _ p hp o ho => ?_⟩
   ·have ea:a = []:=h2.nil_iff.mp e
    subst ea
    exact k ι H _ .refl rs ⟨bb,ws,rfl,h3,h4⟩
   ·have ea:b = []:=h4.nil_iff.mp e
    subst ea
    exact k ι H _ .refl rs ⟨aa,vs,rfl,h1,by rw [List.append_nil]; exact h2⟩
   ·obtain ⟨E,r2⟩:=rs.tup (ho:=.frz o (.tup (vs ++ ws))) hp
    exact k _ _ _ E r2 ⟨p,_,rfl,.inl ⟨o,upd_same,ho⟩,(h2.app h4).up E⟩
  ·cases hf
 ·split at hf
  ·rename_i a b e1 e2
   split at hf
   ·rename_i hl
    cases hf
    obtain ⟨aa,rfl,h1⟩:=rp
    obtain ⟨bb,rfl,h2⟩:=rq
    obtain ⟨vs,h3,h4⟩:=rs.obj _ aa _ h1 e1
    obtain ⟨ws,h5,h6⟩:=rs.obj _ bb _ h2 e2
    refine op_cat pins s σ H _ _ v u Q I rx ry ⟨aa,bb,vs,ws,rfl,rfl,h3,h5,by rw [← h4.length,← h6.length,sizeLine_eq]; exact hl,fun p hp => ?_⟩
    obtain ⟨E,r2,q2⟩:=rs.new_lst hp (h4.app h6)
    exact k _ _ _ E r2 q2
   ·cases hf
  ·cases hf
 ·cases hf
def cmpI (f:Int→Int→Bool):Op2:=intOp fun i j => some (.bl (f i j))
def ltP:Op2:=cmpI fun i j => decide (i < j)
def leP:Op2:=cmpI fun i j => decide (i ≤ j)
def gtP:Op2:=cmpI fun i j => decide (j < i)
def geP:Op2:=cmpI fun i j => decide (j ≤ i)
theorem og_lt:OpR X (compareOp .Lt) (gOp X ltP):=op_intOp op_lt fun i j v H Q h => by cases h; exact ⟨_,fun _ _ => rfl,fun q => ⟨i,j,rfl,rfl,q⟩⟩
theorem og_le:OpR X (compareOp .LtE) (gOp X leP):=op_intOp op_le fun i j v H Q h => by cases h; exact ⟨_,fun _ _ => rfl,fun q => ⟨i,j,rfl,rfl,q⟩⟩
theorem og_gt:OpR X (compareOp .Gt) (gOp X gtP):=op_intOp op_gt fun i j v H Q h => by cases h; exact ⟨_,fun _ _ => rfl,fun q => ⟨i,j,rfl,rfl,q⟩⟩
theorem og_ge:OpR X (compareOp .GtE) (gOp X geP):=op_intOp op_ge fun i j v H Q h => by cases h; exact ⟨_,fun _ _ => rfl,fun q => ⟨i,j,rfl,rfl,q⟩⟩
def eqB (p q:PV) (S:Sto):Option Bool:=match p,q with
 | .int i,.int j => some (decide (i = j))
 | .str i,.str j => some (decide (i = j))
 | .bl i,.bl j => some (decide (i = j))
 | p,q => match toDS S p,toDS S q with
  | some d,some e => if SeqAt.shaped d = true∧SeqAt.shaped e = true then some (PyData.eqv d e) else none
  | _,_ => none
def eqP:Op2:=fun p q S => (eqB p q S).map fun b => (.bl b,S)
def neP:Op2:=fun p q S => (eqB p q S).map fun b => (.bl (!b),S)
theorem eqB_cases {p q:PV} {S:Sto} {b:Bool} (h:eqB p q S = some b) :
  (∃ i j,p = .int i∧q = .int j∧b = decide (i = j)) ∨ (∃ i j,p = .str i∧q = .str j∧b = decide (i = j)) ∨ (∃ i j,p = .bl i∧q = .bl j∧b = decide (i = j)) ∨
  ∃ d e,toDS S p = some d∧toDS S q = some e∧SeqAt.shaped d = true∧SeqAt.shaped e = true∧b = PyData.eqv d e:=by
 unfold eqB at h
 split at h
 ·cases h; exact .inl ⟨_,_,rfl,rfl,rfl⟩
 ·cases h; exact .inr (.inl ⟨_,_,rfl,rfl,rfl⟩)
 ·cases h; exact .inr (.inr (.inl ⟨_,_,rfl,rfl,rfl⟩))
 ·split at h
  ·rename_i d e h1 h2
   split at h
   ·rename_i c
    cases h
    exact .inr (.inr (.inr ⟨d,e,h1,h2,c.1,c.2,rfl⟩))
   ·cases h
  ·cases h
theorem dec_i {i j:Int}:decide (V.int i = V.int j) = decide (i = j):=by by_cases h:i = j <;> simp [h]
theorem dec_s {i j:Str}:decide (V.str i = V.str j) = decide (i = j):=by by_cases h:i = j <;> simp [h]
theorem dec_b {i j:Bool}:decide (V.bl i = V.bl j) = decide (i = j):=by by_cases h:i = j <;> simp [h]
theorem og_eq (hu:X.A.units + 64 < cLine):OpR X (compareOp .Eq) (gOp X eqP):=by
 intro pins s σ H x y v u Q I rx ry ⟨ι,S,p,q,z,S',rs,rp,rq,hf,k⟩
 unfold eqP at hf
 cases hb:eqB p q S with
 | none => rw [hb] at hf; cases hf
 | some b =>
  rw [hb] at hf
  cases hf
  have fin:=k ι H (.bl b) .refl rs rfl
  rcases eqB_cases hb with ⟨i,j,rfl,rfl,rfl⟩ | ⟨i,j,rfl,rfl,rfl⟩ | ⟨i,j,rfl,rfl,rfl⟩ | ⟨d,e,h1,h2,h3,h4,rfl⟩
  ·cases (show x = _ from rp); cases (show y = _ from rq)
   exact op_eq pins s σ H _ _ v u Q I rx ry ⟨rfl,by rw [dec_i]; exact fin⟩
  ·cases (show x = _ from rp); cases (show y = _ from rq)
   exact op_eq pins s σ H _ _ v u Q I rx ry ⟨rfl,by rw [dec_s]; exact fin⟩
  ·cases (show x = _ from rp); cases (show y = _ from rq)
   exact op_eq pins s σ H _ _ v u Q I rx ry ⟨rfl,by rw [dec_b]; exact fin⟩
  ·exact op_eqD hu pins s σ H _ _ v u Q I rx ry ⟨d,e,toDS_dp rs p d x h1 rp,toDS_dp rs q e y h2 rq,h3,h4,fin⟩
theorem og_ne (hu:X.A.units + 64 < cLine):OpR X (compareOp .NotEq) (gOp X neP):=by
 intro pins s σ H x y v u Q I rx ry ⟨ι,S,p,q,z,S',rs,rp,rq,hf,k⟩
 unfold neP at hf
 cases hb:eqB p q S with
 | none => rw [hb] at hf; cases hf
 | some b =>
  rw [hb] at hf
  cases hf
  have fin:=k ι H (.bl (!b)) .refl rs rfl
  rcases eqB_cases hb with ⟨i,j,rfl,rfl,rfl⟩ | ⟨i,j,rfl,rfl,rfl⟩ | ⟨i,j,rfl,rfl,rfl⟩ | ⟨d,e,h1,h2,h3,h4,rfl⟩
  ·cases (show x = _ from rp); cases (show y = _ from rq)
   exact op_ne pins s σ H _ _ v u Q I rx ry ⟨rfl,by rw [dec_i]; exact fin⟩
  ·cases (show x = _ from rp); cases (show y = _ from rq)
   exact op_ne pins s σ H _ _ v u Q I rx ry ⟨rfl,by rw [dec_s]; exact fin⟩
  ·cases (show x = _ from rp); cases (show y = _ from rq)
   exact op_ne pins s σ H _ _ v u Q I rx ry ⟨rfl,by rw [dec_b]; exact fin⟩
  ·exact op_neD hu pins s σ H _ _ v u Q I rx ry ⟨d,e,toDS_dp rs p d x h1 rp,toDS_dp rs q e y h2 rq,h3,h4,fin⟩
def valP (kvs:List (Key × PV)) (k:Key):Option PV:=(kvs.find? fun kv => decide (kv.1 = k)).map (·.2)
def putP (kvs:List (Key × PV)) (k:Key) (v:PV):List (Key × PV) :=
 if (kvs.any fun kv => decide (kv.1 = k)) = true then kvs.map (fun kv => if kv.1 = k then (kv.1,v) else kv) else kvs ++ [(k,v)]
theorem RpF.val {K:PySem.W.Frag} {ι : List Addr} {H:Hp} {k:Key}:∀ {kvs:List (Key × PV)} {ws:List (Key × V)},RpF K ι H kvs ws→(∀ x,valP kvs k = some x→∃ v,valV ws k = some v∧Rp K ι H x v)∧(valP kvs k = none→valV ws k = none)
 | [],_,h => by cases (show _ = _ from h); exact ⟨fun x e => (by cases e),fun _ => rfl⟩
 | (k0,x) :: r,_,h => by
  obtain ⟨v,w,rfl,h1,h2⟩:=h
  obtain ⟨i1,i2⟩:=RpF.val (k:=k) h2
  unfold valP valV at *
  by_cases e:k0 = k
  ·simp only [List.find?_cons,e,decide_true]
   exact ⟨fun y q => (by cases q; exact ⟨v,rfl,h1⟩),fun q => (by cases q)⟩
  ·simp only [List.find?_cons,e,decide_false]
   exact ⟨i1,i2⟩
theorem RpF.any {K:PySem.W.Frag} {ι : List Addr} {H:Hp} {k:Key}:∀ {kvs:List (Key × PV)} {ws:List (Key × V)},RpF K ι H kvs ws→(kvs.any fun kv => decide (kv.1 = k)) = (ws.any fun kv => decide (kv.1 = k))
 | [],_,h => by cases (show _ = _ from h); rfl
 | (k0,x) :: r,_,h => by
  obtain ⟨v,w,rfl,h1,h2⟩:=h
  rw [List.any_cons,List.any_cons,RpF.any h2]
theorem RpF.app {K:PySem.W.Frag} {ι : List Addr} {H:Hp} {κ : Type}:∀ {kvs kvs':List (κ × PV)} {ws ws':List (κ × V)},RpF K ι H kvs ws→RpF K ι H kvs' ws'→RpF K ι H (kvs ++ kvs') (ws ++ ws')
 | [],_,_,_,h,h' => by cases (show _ = _ from h); exact h'
 | (k0,x) :: r,_,_,_,h,h' => by
  obtain ⟨v,w,rfl,h1,h2⟩:=h
  exact ⟨v,_,rfl,h1,RpF.app h2 h'⟩
theorem RpF.mapPut {K:PySem.W.Frag} {ι : List Addr} {H:Hp} {k:Key} {y:PV} {z:V} (hy:Rp K ι H y z):∀ {kvs:List (Key × PV)} {ws:List (Key × V)},RpF K ι H kvs ws →
  RpF K ι H (kvs.map (fun kv => if kv.1 = k then (kv.1,y) else kv)) (ws.map (fun kv => if kv.1 = k then (kv.1,z) else kv))
 | [],_,h => by cases (show _ = _ from h); rfl
 | (k0,x) :: r,_,h => by
  obtain ⟨v,w,rfl,h1,h2⟩:=h
  rw [List.map_cons,List.map_cons]
  by_cases e:k0 = k
  ·simp only [e,if_true]; exact ⟨z,_,rfl,hy,RpF.mapPut hy h2⟩
  ·simp only [e,if_false]; exact ⟨v,_,rfl,h1,RpF.mapPut hy h2⟩
theorem RpF.put {K:PySem.W.Frag} {ι : List Addr} {H:Hp} {k:Key} {y:PV} {z:V} {kvs:List (Key × PV)} {ws:List (Key × V)} (h:RpF K ι H kvs ws) (hy:Rp K ι H y z):RpF K ι H (putP kvs k y) (putK ws k z):=by
 unfold putP putK
 rw [h.any]
 split
 ·exact h.mapPut hy
 ·exact h.app ⟨z,[],rfl,hy,rfl⟩
def flatP:PV→Bool
 | .non => true
 | .bl _ => true
 | .int _ => true
 | .str _ => true
 | _ => false
def flatW:PV→V
 | .non => .non
 | .bl b => .bl b
 | .int i => .int i
 | .str x => .str x
 | _ => .non
theorem rp_flat {K:PySem.W.Frag} {ι : List Addr} {H:Hp} {p:PV} {x:V} (h:Rp K ι H p x) (f:flatP p = true):x = flatW p∧flatV x = true:=by
 cases p with
 | non => cases (show x = _ from h); exact ⟨rfl,rfl⟩
 | bl b => cases (show x = _ from h); exact ⟨rfl,rfl⟩
 | int b => cases (show x = _ from h); exact ⟨rfl,rfl⟩
 | str b => cases (show x = _ from h); exact ⟨rfl,rfl⟩
 | _ => cases f
theorem rpl_flat {K:PySem.W.Frag} {ι : List Addr} {H:Hp}:∀ {xs:List PV} {vs:List V},RpL K ι H xs vs→xs.all flatP = true→vs = xs.map flatW∧vs.all flatV = true
 | [],_,h,_ => by cases (show _ = _ from h); exact ⟨rfl,rfl⟩
 | x :: xs,_,h,f => by
  obtain ⟨v,r,rfl,h1,h2⟩:=h
  rw [List.all_cons,Bool.and_eq_true] at f
  obtain ⟨e1,e2⟩:=rp_flat h1 f.1
  obtain ⟨e3,e4⟩:=rpl_flat h2 f.2
  exact ⟨by rw [List.map_cons,← e1,← e3],by rw [List.all_cons,e2,e4]; rfl⟩
def inItems (p:PV) (xs:List PV):Option Bool :=
 if flatP p = true∧xs.all flatP = true then some (inV (flatW p) (xs.map flatW)) else none
def inDeep (p:PV) (xs:List PV):Option Bool:=match toD p,toDL xs with
 | some d,some ds => if SeqAt.shaped d = true∧SeqAt.shaped (.list ds) = true then some (ds.any fun z => PyData.eqv z d) else none
 | _,_ => none
def inB (p q:PV) (S:Sto):Option Bool:=match q with
 | .str z => match p with
  | .str ⟨⟨[c]⟩⟩ => some (decide (c ∈ z.cps.toList))
  | .str x => some (!(Builtin.Str.occurrences z x 0 z.length 1).isEmpty)
  | _ => none
 | .tup xs => inItems p xs
 | .fls xs => inItems p xs
 | .loc l => match S[l]? with
  | some (.lst xs) => match inItems p xs with
   | some b => some b
   | none => inDeep p xs
  | some (.dct kvs) => match keyP p with
   | some k => some (valP kvs k).isSome
   | none => none
  | _ => none
 | _ => none
def inP:Op2:=fun p q S => (inB p q S).map fun b => (.bl b,S)
def notInP:Op2:=fun p q S => (inB p q S).map fun b => (.bl (!b),S)
theorem key_rp {K:PySem.W.Frag} {ι : List Addr} {H:Hp} {p:PV} {x:V} {k:Key} (h:Rp K ι H p x) (e:keyP p = some k):x = kV k:=by
 cases p with
 | int i => cases (show x = _ from h); cases e; rfl
 | str i => cases (show x = _ from h); cases e; rfl
 | _ => cases e
theorem og_inB (hu:X.A.units + 65 < cLine) {p q:PV} {S:Sto} {b:Bool} {ι : List Addr} {H:Hp} {x y:V} (rs:RSt X.prog X.w X.K X.mg ι H S) (rp:Rp X.K ι H p x) (rq:Rp X.K ι H q y) (h:inB p q S = some b) (neg:Bool)
  (pins:List (Addr × Obj)) (s:Shared) (σ : L2.St) (v u:Value) (Q:VK) (I:Inv X pins σ H s) (rx:RelV x v) (ry:RelV y u) (fin:Q (.bl (if neg then !b else b)) H) :
  wpAny (model X.prog X.w) X.A (compareOp (if neg then .NotIn else .In) v u) (EP X pins σ Q) X.xe s:=by
 have items:∀ (xs:List PV) (vs:List V) (a:Addr),y = .ref a→(SqL X.K H a vs ∨ SqT X.K H a vs)→RpL X.K ι H xs vs→inItems p xs = some b →
   wpAny (model X.prog X.w) X.A (compareOp (if neg then .NotIn else .In) v u) (EP X pins σ Q) X.xe s:=by
  intro xs vs a ey hq hr hi
  subst ey
  unfold inItems at hi
  split at hi
  ·rename_i c
   cases hi
   obtain ⟨e1,e2⟩:=rp_flat rp c.1
   obtain ⟨e3,e4⟩:=rpl_flat hr c.2
   subst e1; subst e3
   cases neg
   ·exact op_in_seq pins s σ H _ _ v u Q I rx ry ⟨a,_,rfl,hq,e2,e4,fin⟩
   ·exact op_notIn_seq pins s σ H _ _ v u Q I rx ry ⟨a,_,rfl,hq,e2,e4,fin⟩
  ·cases hi
 unfold inB at h
 split at h
 ·cases (show y = _ from rq)
  split at h
  ·cases h
   cases (show x = _ from rp)
   cases neg
   ·exact op_in_sign pins s σ H _ _ v u Q I rx ry ⟨_,_,rfl,rfl,fin⟩
   ·exact op_notIn_sign pins s σ H _ _ v u Q I rx ry ⟨_,_,rfl,rfl,fin⟩
  ·cases h
   cases (show x = _ from rp)
   cases neg
   ·exact op_in_str pins s σ H _ _ v u Q I rx ry ⟨_,_,rfl,rfl,fin⟩
   ·exact op_notin_str pins s σ H _ _ v u Q I rx ry ⟨_,_,rfl,rfl,fin⟩
  ·cases h
 ·obtain ⟨a,vs,ey,h1,h2⟩:=rq
  exact items _ vs a ey (.inr h1.seq) h2 h
 ·obtain ⟨a,vs,ey,h1,h2⟩:=rq
  exact items _ vs a ey (.inl h1.seq) h2 h
 ·obtain ⟨a,ey,h1⟩:=rq
  split at h
  ·rename_i xs eS
   obtain ⟨vs,h3,h4⟩:=rs.obj _ a _ h1 eS
   split at h
   ·rename_i b' hb'
    cases h
    exact items _ vs a ey (.inl (.of h3)) h4 hb'
   ·unfold inDeep at h
    split at h
    ·rename_i d ds e1 e2
     split at h
     ·rename_i c
      cases h
      subst ey
      have dx:=toD_dp p d x e1 rp
      have dy:Dp X.K H (.ref a) (.list ds):=.lst (.of h3) (toDL_dp xs ds vs e2 h4)
      cases neg
      ·exact op_inD hu pins s σ H _ _ v u Q I rx ry ⟨d,ds,dx,dy,c.1,c.2,fin⟩
      ·exact op_notInD hu pins s σ H _ _ v u Q I rx ry ⟨d,ds,dx,dy,c.1,c.2,fin⟩
     ·cases h
    ·cases h
  ·rename_i kvs eS
   obtain ⟨ws,h3,h4⟩:=rs.obj _ a _ h1 eS
   split at h
   ·rename_i k hk
    cases h
    subst ey
    cases key_rp rp hk
    obtain rfl:u = Value.ref a:=ry
    have e:(valP kvs k).isSome = (valV ws k).isSome:=by
     obtain ⟨i1,i2⟩:=RpF.val (k:=k) h4
     cases q:valP kvs k with
     | none => rw [i2 q]; rfl
     | some x => obtain ⟨v,e,_⟩:=i1 x q; rw [e]; rfl
    rw [e] at fin
    cases neg
    ·exact d_in (by omega) I (DGet.k h3) rx fun s' I' => ⟨.bl _,H,I',rfl,fin⟩
    ·exact d_notIn (by omega) I (DGet.k h3) rx fun s' I' => ⟨.bl _,H,I',rfl,fin⟩
   ·cases h
  ·cases h
 ·cases h
theorem og_in (hu:X.A.units + 65 < cLine):OpR X (compareOp .In) (gOp X inP):=by
 intro pins s σ H x y v u Q I rx ry ⟨ι,S,p,q,z,S',rs,rp,rq,hf,k⟩
 unfold inP at hf
 cases hb:inB p q S with
 | none => rw [hb] at hf; cases hf
 | some b =>
  rw [hb] at hf
  cases hf
  exact og_inB hu rs rp rq hb false pins s σ v u Q I rx ry (k ι H (.bl b) .refl rs rfl)
theorem og_notIn (hu:X.A.units + 65 < cLine):OpR X (compareOp .NotIn) (gOp X notInP):=by
 intro pins s σ H x y v u Q I rx ry ⟨ι,S,p,q,z,S',rs,rp,rq,hf,k⟩
 unfold notInP at hf
 cases hb:inB p q S with
 | none => rw [hb] at hf; cases hf
 | some b =>
  rw [hb] at hf
  cases hf
  exact og_inB hu rs rp rq hb true pins s σ v u Q I rx ry (k ι H (.bl (!b)) .refl rs rfl)
theorem og_ix:IxR X (gOp X getP):=by
 intro value slice pins s σ H x y v u Q I rx ry ⟨ι,S,p,q,z,S',rs,rp,rq,hf,k⟩ hs
 unfold getP at hf
 split at hf
 ·rename_i xs i
  cases ha:atI xs i with
  | none => rw [ha] at hf; cases hf
  | some w =>
   rw [ha] at hf
   cases hf
   obtain ⟨a,vs,rfl,h1,h2⟩:=rp
   cases (show y = _ from rq)
   obtain ⟨w',h3,h4⟩:=h2.at ha
   exact ix_tup value slice pins s σ H _ _ v u Q I rx ry ⟨a,vs,i,w',rfl,rfl,h1.seq,h3,k ι H _ .refl rs h4⟩ hs
 ·rename_i xs i
  cases ha:atI xs i with
  | none => rw [ha] at hf; cases hf
  | some w =>
   rw [ha] at hf
   cases hf
   obtain ⟨a,vs,rfl,h1,h2⟩:=rp
   cases (show y = _ from rq)
   obtain ⟨w',h3,h4⟩:=h2.at ha
   exact ix_list value slice pins s σ H _ _ v u Q I rx ry ⟨a,vs,i,w',rfl,rfl,h1.seq,h3,k ι H _ .refl rs h4⟩ hs
 ·rename_i xs i
  split at hf
  ·rename_i hl
   cases ha:atI xs.cps.toList i with
   | none => rw [ha] at hf; cases hf
   | some w =>
    rw [ha] at hf
    cases hf
    cases (show x = _ from rp)
    cases (show y = _ from rq)
    exact ix_str value slice pins s σ H _ _ v u Q I rx ry ⟨xs,i,w,rfl,rfl,by rw [sizeLine_eq]; exact hl,ha,k ι H _ .refl rs rfl⟩ hs
  ·cases hf
 ·split at hf
  ·rename_i xs i eS
   cases ha:atI xs i with
   | none => rw [ha] at hf; cases hf
   | some w =>
    rw [ha] at hf
    cases hf
    obtain ⟨a,rfl,h1⟩:=rp
    cases (show y = _ from rq)
    obtain ⟨vs,h2,h3⟩:=rs.obj _ a _ h1 eS
    obtain ⟨w',h4,h5⟩:=h3.at ha
    exact ix_list value slice pins s σ H _ _ v u Q I rx ry ⟨a,vs,i,w',rfl,rfl,.of h2,h4,k ι H _ .refl rs h5⟩ hs
  ·cases hf
 ·cases hf
theorem re_ix {W:WX} {a b:Expr} {ma mb:EM PV} {pos:Pos} (ha:RE X W a ma) (hb:RE X W b mb) (hs:PlainIx b:=by exact fun _ _ => rfl):RE X W (.Subscript a b pos) (binM getP ma mb) :=
 ⟨pe_weak (pe_ix og_ix ha.pe hb.pe hs) bin_read⟩
end
end PL
namespace PL
open PySem PySem.Spec PyProof.Rows L2
section
variable {X:Cx} {W:WX} {a b c e o:Expr} {es rest:List Expr} {ma mb mc mo:EM PV} {tA tB':EM Bool} {mas:EM (List PV)} {pos apos cpos p2:Pos}
abbrev rO:RR (Option Int) (Option Int):=fun _ _ v x => v = x
structure RO (X:Cx) (W:WX) (e:Option Expr) (m:EM (Option Int)):Prop where
 po:L2.PO X e (gE X W rO m)
theorem po_weak {X:Cx} {e:Option Expr} {t t':TO} (h:L2.PO X e t) (w:∀ σ H Q,t' σ H Q→t σ H Q):L2.PO X e t':=⟨fun pins s σ H Q I hh => h.run pins s σ H Q I (w σ H Q hh)⟩
def oN:EM (Option Int):=fun _ S => .ok none S
def oS (m:EM PV):EM (Option Int):=fun τ S => bnd (m τ S) fun p S1 => match p with | .int i => .ok (some i) S1 | _ => .bad
theorem ro_none:RO X W none oN:=⟨po_weak po_none fun σ H Q h => by
 obtain ⟨ι,τ,S,r,ρ,pk⟩:=h
 exact pk _ _ _ .refl r rfl⟩
theorem ro_some (h:RE X W e ma):RO X W (some e) (oS ma):=⟨po_weak (po_some h.pe) fun σ H Q h => by
 obtain ⟨ι,τ,S,r,ρ,pk⟩:=h
 refine ⟨ι,τ,S,r,ρ,pk.next.mono ?_⟩
 rintro x H1 ⟨p,ι1,S1,e1,r1,q1,pk1⟩
 cases p with
 | int i => exact ⟨i,q1,pk1 _ _ _ .refl r1 rfl⟩
 | _ => exact pk1.elim⟩
def cutP (xs:List PV) (lo hi:Option Int):List PV:=(xs.drop (HT.sIx xs.length 0 lo)).take (HT.sIx xs.length xs.length hi - HT.sIx xs.length 0 lo)
theorem RpL.cut {K:PySem.W.Frag} {ι : List Addr} {H:Hp} {xs:List PV} {vs:List V} (h:RpL K ι H xs vs) (lo hi:Option Int):RpL K ι H (cutP xs lo hi) (cutV vs lo hi):=by
 unfold cutP cutV
 rw [h.length]
 exact (h.drop _).take _
def slP (p:PV) (lo hi:Option Int) (S:Sto):Option (PV × Sto):=match p with
 | .tup xs => some (.tup (cutP xs lo hi),S)
 | .fls xs => some (.loc S.length,S ++ [.lst (cutP xs lo hi)])
 | .str x => if x.length ≤ 16777216 then some (.str (cutS x lo hi),S) else none
 | .loc l => match S[l]? with | some (.lst xs) => some (.loc S.length,S ++ [.lst (cutP xs lo hi)]) | _ => none
 | _ => none
def slM (m:EM PV) (lo hi:EM (Option Int)):EM PV:=fun τ S => bnd (m τ S) fun p S1 => bnd (lo τ S1) fun l S2 => bnd (hi τ S2) fun h S3 => lift (slP p l h S3)
theorem cut_whole {α : Type} (xs:List α) (i j:Nat) (h1:i = 0) (h2:j = xs.length):(xs.drop i).take (j - i) = xs:=by subst h1; subst h2; simp
theorem re_slice {lo hi:Option Expr} {ml mh:EM (Option Int)} (he:RE X W e ma) (hl:RO X W lo ml) (hu:RO X W hi mh):RE X W (.Subscript e (.Slice lo hi none p2) pos) (slM ma ml mh):=by
 refine ⟨pe_weak (pe_slice ((sl_list.or PLz.sl_tupZ).or sl_str) he.pe hl.po hu.po) fun σ H Q h => ?_⟩
 obtain ⟨ι,τ,S,r,ρ,pk⟩:=h
 refine ⟨ι,τ,S,r,ρ,pk.next.mono ?_⟩
 rintro x H1 ⟨p,ι1,S1,e1,r1,q1,pk1⟩
 refine ⟨ι1,τ,S1,r1,ρ.up e1,pk1.next.mono ?_⟩
 rintro l H2 ⟨l',ι2,S2,e2,r2,q2,pk2⟩
 refine ⟨ι2,τ,S2,r2,(ρ.up e1).up e2,pk2.next.mono ?_⟩
 rintro u H3 ⟨u',ι3,S3,e3,r3,q3,pk3⟩
 have ql:l' = l:=q2
 subst ql
 have qu:u' = u:=q3
 subst qu
 have q1:=(q1.up e2).up e3
 obtain ⟨v,S',hf,k⟩:=pk_lift pk3
 unfold slP at hf
 split at hf
 ·cases hf
  obtain ⟨a,vs,rfl,h1,h2⟩:=q1
  refine .inl (.inr ⟨a,vs,rfl,h1.seq,fun hw => ?_,fun hw p hp o ho => ?_⟩)
  ·refine k _ _ _ .refl r3 ⟨a,vs,rfl,h1,?_⟩
   have e:=h2.cut l' u'
   have e2:cutV vs l' u' = vs:=cut_whole vs _ _ hw.1 hw.2
   rw [e2] at e
   exact e
  ·obtain ⟨E,r4⟩:=r3.tup (ho:=.frz o (.tup (cutV vs l' u'))) hp
   exact k _ _ _ E r4 ⟨p,_,rfl,.inl ⟨o,upd_same,ho⟩,(h2.cut l' u').up E⟩
 ·cases hf
  obtain ⟨a,vs,rfl,h1,h2⟩:=q1
  refine .inl (.inl ⟨a,vs,rfl,h1.seq,fun p hp => ?_⟩)
  obtain ⟨E,r4,q4⟩:=r3.new_lst hp (h2.cut l' u')
  exact k _ _ _ E r4 q4
 ·split at hf
  ·rename_i hl
   cases hf
   exact .inr ⟨_,q1,by rw [sizeLine_eq]; exact hl,k _ _ _ .refl r3 rfl⟩
  ·cases hf
 ·split at hf
  ·rename_i xs eS
   cases hf
   obtain ⟨a,rfl,h1⟩:=q1
   obtain ⟨vs,h2,h3⟩:=r3.obj _ a _ h1 eS
   refine .inl (.inl ⟨a,vs,rfl,.of h2,fun p hp => ?_⟩)
   obtain ⟨E,r4,q4⟩:=r3.new_lst hp (h3.cut l' u')
   exact k _ _ _ E r4 q4
  ·cases hf
 ·cases hf
def revP (p:PV) (S:Sto):Option (PV × Sto):=match p with
 | .fls xs => some (.loc S.length,S ++ [.lst xs.reverse])
 | .loc l => match S[l]? with | some (.lst xs) => some (.loc S.length,S ++ [.lst xs.reverse]) | _ => none
 | _ => none
def unM (f:PV→Sto→Option (PV × Sto)) (m:EM PV):EM PV:=fun τ S => bnd (m τ S) fun p S1 => lift (f p S1)
def negP (p:PV) (S:Sto):Option (PV × Sto):=match p with | .int i => some (.int (-i),S) | _ => none
theorem re_neg (he:RE X W e ma):RE X W (.UnaryOp .USub e pos) (unM negP ma):=by
 refine ⟨pe_weak (pe_un un_neg he.pe) fun σ H Q h => ?_⟩
 obtain ⟨ι,τ,S,r,ρ,pk⟩:=h
 refine ⟨ι,τ,S,r,ρ,pk.next.mono ?_⟩
 rintro x H1 ⟨p,ι1,S1,e1,r1,q1,pk1⟩
 cases p with
 | int i => exact ⟨i,q1,pk1 _ _ _ .refl r1 rfl⟩
 | _ => exact pk1.elim

abbrev OpN:=List PV→Sto→Option (PV × Sto)
def gCall (X:Cx) (f:OpN):List V→Hp→VK→Prop:=fun xs H Q => ∃ ι S ps v S',RSt X.prog X.w X.K X.mg ι H S∧RpL X.K ι H ps xs∧f ps S = some (v,S') ∧
 ∀ ι' H' z,Ext ι H ι' H'→RSt X.prog X.w X.K X.mg ι' H' S'→Rp X.K ι' H' v z→Q z H'
def callM (f:OpN) (ms:EM (List PV)):EM PV:=fun τ S => bnd (ms τ S) fun ps S1 => lift (f ps S1)
theorem call_read {f:OpN} (σ : L2.St) (H:Hp) (Q:VK) (h:gE X W (rV X) (callM f mas) σ H Q):tCB (gCall X f) (gE X W (rL X) mas) σ H Q:=by
 obtain ⟨ι,τ,S,r,ρ,pk⟩:=h
 refine ⟨ι,τ,S,r,ρ,pk.next.mono ?_⟩
 rintro xs H1 ⟨ps,ι1,S1,e1,r1,q1,pk1⟩
 obtain ⟨v,S',hf,k⟩:=pk_lift pk1
 exact ⟨ι1,S1,ps,v,S',r1,q1,hf,k⟩
theorem re_callB {x:Str} {p:Pos} {id:String} {f:OpN} (hc:CallR X (.builtin id) (gCall X f)) (hg:Gl X x) (hm:X.mg x = none) (hv:bootBuiltins x = some (.builtin id)) (ha:RA X W (e :: es) mas) (hn:x ≠ "__name__" := by decide) (hdb:(x == ("__debug__" : Str)) = false:=by decide)
  (he:starEach (e :: es) X.env = (false,eval e X.env) :: starEach es X.env:=by rfl) (hpl:(backTo pos (starEach es X.env)).any (·.1) = false:=by rfl):RE X W (.Call (.Name x p) (e :: es) [] pos) (callM f mas) :=
 ⟨pe_weak (pe_callB hc hg hm hv ha.pa hn hdb he hpl) call_read⟩
theorem re_callTy {x:Str} {p:Pos} {T:String} {f:OpN} (hc:CallR X (.type T) (gCall X f)) (hg:Gl X x) (hm:X.mg x = none) (hv:bootBuiltins x = some (.type T)) (ha:RA X W (e :: es) mas) (hn:x ≠ "__name__" := by decide) (hdb:(x == ("__debug__" : Str)) = false:=by decide)
  (he:starEach (e :: es) X.env = (false,eval e X.env) :: starEach es X.env:=by rfl) (hpl:(backTo pos (starEach es X.env)).any (·.1) = false:=by rfl):RE X W (.Call (.Name x p) (e :: es) [] pos) (callM f mas) :=
 ⟨pe_weak (pe_callTy hc hg hm hv ha.pa hn hdb he hpl) call_read⟩
def on1 (f:PV→Sto→Option (PV × Sto)):OpN:=fun ps S => match ps with | [p] => f p S | _ => none
def on2 (f:PV→PV→Sto→Option (PV × Sto)):OpN:=fun ps S => match ps with | [p,q] => f p q S | _ => none
theorem rpl1 {K:PySem.W.Frag} {ι : List Addr} {H:Hp} {p:PV} {xs:List V} (h:RpL K ι H [p] xs):∃ x,xs = [x]∧Rp K ι H p x:=by
 obtain ⟨v,r,rfl,h1,h2⟩:=h
 cases (show r = _ from h2)
 exact ⟨v,rfl,h1⟩
theorem rpl2 {K:PySem.W.Frag} {ι : List Addr} {H:Hp} {p q:PV} {xs:List V} (h:RpL K ι H [p,q] xs):∃ x y,xs = [x,y]∧Rp K ι H p x∧Rp K ι H q y:=by
 obtain ⟨v,r,rfl,h1,h2⟩:=h
 obtain ⟨y,rfl,h3⟩:=rpl1 h2
 exact ⟨v,y,rfl,h1,h3⟩
theorem cr_on1 {g:Value} {f:PV→Sto→Option (PV × Sto)} (h:∀ (pins:List (Addr × Obj)) (s:Shared) (σ : L2.St) (H:Hp) (us:List Value) (Q:VK) (ι : List Addr) (S:Sto) (p:PV) (x:V) (v:PV) (S':Sto),Inv X pins σ H s→Vals [x] us→RSt X.prog X.w X.K X.mg ι H S→Rp X.K ι H p x→f p S = some (v,S') →
   (∀ ι' H' z,Ext ι H ι' H'→RSt X.prog X.w X.K X.mg ι' H' S'→Rp X.K ι' H' v z→Q z H')→wpAny (model X.prog X.w) X.A (call g us) (EP X pins σ Q) X.xe s):CallR X g (gCall X (on1 f)):=by
 intro pins s σ H xs us Q I r ⟨ι,S,ps,v,S',rs,rp,hf,k⟩
 unfold on1 at hf
 split at hf
 ·obtain ⟨x,rfl,h1⟩:=rpl1 rp
  exact h pins s σ H us Q ι S _ x v S' I r rs h1 hf k
 ·cases hf
def lenP (p:PV) (S:Sto):Option (PV × Sto):=match p with
 | .tup xs => some (.int xs.length,S)
 | .fls xs => some (.int xs.length,S)
 | .str x => if x.length ≤ 16777216 then some (.int x.length,S) else none
 | .loc l => match S[l]? with
  | some (.lst xs) => some (.int xs.length,S)
  | some (.dct kvs) => some (.int kvs.length,S)
  | _ => none
 | _ => none
theorem cr_len:CallR X (.builtin "len") (gCall X (on1 lenP)):=cr_on1 fun pins s σ H us Q ι S p x v S' I r rs rp hf k => by
 unfold lenP at hf
 split at hf
 ·cases hf
  obtain ⟨a,vs,rfl,h1,h2⟩:=rp
  exact call_len pins s σ H _ us Q I r ⟨_,_,rfl,.inr ⟨vs,h1.seq,rfl⟩,k _ _ _ .refl rs (by rw [h2.length]; rfl)⟩
 ·cases hf
  obtain ⟨a,vs,rfl,h1,h2⟩:=rp
  exact call_len pins s σ H _ us Q I r ⟨_,_,rfl,.inl ⟨vs,h1.seq,rfl⟩,k _ _ _ .refl rs (by rw [h2.length]; rfl)⟩
 ·split at hf
  ·rename_i hl
   cases hf
   cases (show x = _ from rp)
   exact call_len pins s σ H _ us Q I r ⟨_,_,rfl,⟨by rw [sizeLine_eq]; exact hl,rfl⟩,k _ _ _ .refl rs rfl⟩
  ·cases hf
 ·split at hf
  ·rename_i xs eS
   cases hf
   obtain ⟨a,rfl,h1⟩:=rp
   obtain ⟨vs,h2,h3⟩:=rs.obj _ a _ h1 eS
   exact call_len pins s σ H _ us Q I r ⟨_,_,rfl,.inl ⟨vs,.of h2,rfl⟩,k _ _ _ .refl rs (by rw [h3.length]; rfl)⟩
  ·rename_i xs eS
   cases hf
   obtain ⟨a,rfl,h1⟩:=rp
   obtain ⟨vs,h2,h3⟩:=rs.obj _ a _ h1 eS
   exact call_lenD pins s σ H _ us Q I r ⟨a,vs,rfl,h2,k _ _ _ .refl rs (by rw [h3.length]; rfl)⟩
  ·cases hf
 ·cases hf
def listP (p:PV) (S:Sto):Option (PV × Sto):=(itemsP p S).map fun xs => (.loc S.length,S ++ [.lst xs])
def tupleP (p:PV) (S:Sto):Option (PV × Sto):=(itemsP p S).map fun xs => (.tup xs,S)
theorem items_rp {ι : List Addr} {H:Hp} {S:Sto} {p:PV} {x:V} {xs:List PV} (rs:RSt X.prog X.w X.K X.mg ι H S) (rp:Rp X.K ι H p x) (h:itemsP p S = some xs) :
  ∃ a vs,x = .ref a∧RpL X.K ι H xs vs∧(SqL X.K H a vs ∨ (p = .tup xs∧SqT X.K H a vs)):=by
 unfold itemsP at h
 split at h
 ·cases h
  obtain ⟨a,vs,rfl,h1,h2⟩:=rp
  exact ⟨a,vs,rfl,h2,.inr ⟨rfl,h1.seq⟩⟩
 ·cases h
  obtain ⟨a,vs,rfl,h1,h2⟩:=rp
  exact ⟨a,vs,rfl,h2,.inl h1.seq⟩
 ·split at h
  ·rename_i eS
   cases h
   obtain ⟨a,rfl,h1⟩:=rp
   obtain ⟨vs,h2,h3⟩:=rs.obj _ a _ h1 eS
   exact ⟨a,vs,rfl,h3,.inl (.of h2)⟩
  ·cases h
 ·cases h
theorem cr_tuple:CallR X (.type "tuple") (gCall X (on1 tupleP)):=cr_on1 fun pins s σ H us Q ι S p x v S' I r rs rp hf k => by
 unfold tupleP at hf
 cases hi:itemsP p S with
 | none => rw [hi] at hf; cases hf
 | some xs =>
  rw [hi] at hf
  cases hf
  obtain ⟨a,vs,rfl,h1,h2⟩:=items_rp rs rp hi
  refine PLz.call_tupleZ pins s σ H _ us Q I r ⟨a,vs,rfl,?_⟩
  rcases h2 with h2 | ⟨rfl,h2⟩
  ·refine .inl ⟨h2,fun l hl o ho => ?_⟩
   obtain ⟨E,r4⟩:=rs.tup (ho:=.frz o (.tup vs)) hl
   exact k _ _ _ E r4 ⟨l,vs,rfl,.inl ⟨o,upd_same,ho⟩,h1.up E⟩
  ·exact .inr ⟨h2,k _ _ _ .refl rs rp⟩
def boolsP:List PV→Option (List Bool)
 | [] => some []
 | .bl b :: r => (boolsP r).map fun bs => b :: bs
 | _ => none
theorem bools_rp {K:PySem.W.Frag} {ι : List Addr} {H:Hp}:∀ {xs:List PV} {bs:List Bool} {vs:List V},RpL K ι H xs vs→boolsP xs = some bs→vs = bs.map V.bl
 | [],bs,_,h,e => by cases e; exact h
 | x :: xs,bs,_,h,e => by
  obtain ⟨v,r,rfl,h1,h2⟩:=h
  cases x with
  | bl b =>
   unfold boolsP at e
   cases q:boolsP xs with
   | none => rw [q] at e; cases e
   | some bs' =>
    rw [q] at e
    cases e
    cases (show v = _ from h1)
    rw [bools_rp h2 q]; rfl
  | _ => cases e
def allP (p:PV) (S:Sto):Option (PV × Sto):=match p with
 | .loc l => match S[l]? with | some (.lst xs) => (boolsP xs).map fun bs => (.bl (bs.all id),S) | _ => none
 | _ => none
def anyP (p:PV) (S:Sto):Option (PV × Sto):=match p with
 | .loc l => match S[l]? with | some (.lst xs) => (boolsP xs).map fun bs => (.bl (bs.any id),S) | _ => none
 | _ => none
theorem cr_allP (hc:X.calm = true):CallR X (.builtin "all") (gCall X (on1 allP)):=cr_on1 fun pins s σ H us Q ι S p x v S' I r rs rp hf k => by
 unfold allP at hf
 split at hf
 ·split at hf
  ·rename_i xs eS
   cases hb:boolsP xs with
   | none => rw [hb] at hf; cases hf
   | some bs =>
    rw [hb] at hf
    cases hf
    obtain ⟨a,rfl,h1⟩:=rp
    obtain ⟨vs,h2,h3⟩:=rs.obj _ a _ h1 eS
    have e:=bools_rp h3 hb
    subst e
    exact cr_all hc pins s σ H _ us Q I r ⟨a,bs,rfl,.of h2,k _ _ _ .refl rs rfl⟩
  ·cases hf
 ·cases hf
theorem cr_anyP (hc:X.calm = true):CallR X (.builtin "any") (gCall X (on1 anyP)):=cr_on1 fun pins s σ H us Q ι S p x v S' I r rs rp hf k => by
 unfold anyP at hf
 split at hf
 ·split at hf
  ·rename_i xs eS
   cases hb:boolsP xs with
   | none => rw [hb] at hf; cases hf
   | some bs =>
    rw [hb] at hf
    cases hf
    obtain ⟨a,rfl,h1⟩:=rp
    obtain ⟨vs,h2,h3⟩:=rs.obj _ a _ h1 eS
    have e:=bools_rp h3 hb
    subst e
    exact cr_any hc pins s σ H _ us Q I r ⟨a,bs,rfl,.of h2,k _ _ _ .refl rs rfl⟩
  ·cases hf
 ·cases hf
def intP (p:PV) (S:Sto):Option (PV × Sto):=match p with
 | .int i => some (.int i,S)
 | .bl k => some (.int (if k then 1 else 0),S)
 | _ => none
theorem cr_int:CallR X (.type "int") (gCall X (on1 intP)):=cr_on1 fun pins s σ H us Q ι S p x v S' I r rs rp hf k => by
 unfold intP at hf
 split at hf
 ·cases hf; cases (show x = _ from rp)
  exact call_int1 pins s σ H _ us Q I r (.inl ⟨_,rfl,k _ _ _ .refl rs rfl⟩)
 ·cases hf; cases (show x = _ from rp)
  exact call_int1 pins s σ H _ us Q I r (.inr ⟨_,rfl,k _ _ _ .refl rs rfl⟩)
 ·cases hf
def maxP (p q:PV) (S:Sto):Option (PV × Sto):=match p,q with | .int i,.int j => some (.int (if j > i then j else i),S) | _,_ => none
theorem cr_max2P (hc:X.calm = true):CallR X (.builtin "max") (gCall X (on2 maxP)):=by
 intro pins s σ H xs us Q I r ⟨ι,S,ps,v,S',rs,rp,hf,k⟩
 unfold on2 at hf
 split at hf
 ·obtain ⟨x,y,rfl,h1,h2⟩:=rpl2 rp
  unfold maxP at hf
  split at hf
  ·cases hf; cases (show x = _ from h1); cases (show y = _ from h2)
   exact call_max2 hc pins s σ H _ us Q I r ⟨_,_,rfl,k _ _ _ .refl rs rfl⟩
  ·cases hf
 ·cases hf
def tyNm (p:PV) (S:Sto):Option String:=match p with
 | .non => some "NoneType" | .bl _ => some "bool" | .int _ => some "int" | .str _ => some "str" | .tup _ => some "tuple" | .fls _ => some "list"
 | .loc l => match S[l]? with | some (.lst _) => some "list" | some (.dct _) => some "dict" | _ => none
 | .fn _ _ _ => none
def isiP (T:String) (p:PV) (S:Sto):Option Bool:=(tyNm p S).bind fun t => kitB t T
def isiM (T:String) (m:EM PV):EM PV:=fun τ S => bnd (m τ S) fun p S1 => match isiP T p S1 with | some b => .ok (.bl b) S1 | none => .bad
theorem ty_rp {ι : List Addr} {H:Hp} {S:Sto} {p:PV} {x:V} {t:String} (rs:RSt X.prog X.w X.K X.mg ι H S) (rp:Rp X.K ι H p x) (h:tyNm p S = some t):TyX X.K H x (.type t):=by
 unfold tyNm at h
 split at h
 ·cases h; cases (show x = _ from rp); exact .base .non
 ·cases h; cases (show x = _ from rp); exact .base (.bl _)
 ·cases h; cases (show x = _ from rp); exact .base (.int _)
 ·cases h; cases (show x = _ from rp); exact .base (.str _)
 ·cases h
  obtain ⟨a,vs,rfl,h1,h2⟩:=rp
  rcases h1 with ⟨o,h1,_⟩ | ⟨o,its,n,h1,h3,_⟩
  ·exact .fTuple h1
  ·exact .kTuple h1 h3
 ·cases h
  obtain ⟨a,vs,rfl,h1,h2⟩:=rp
  rcases h1 with ⟨o,h1⟩ | ⟨o,its,n,h1,h3,_⟩
  ·exact .base (.frz h1)
  ·exact .kList h1 h3
 ·split at h
  ·rename_i eS
   cases h
   obtain ⟨a,rfl,h1⟩:=rp
   obtain ⟨vs,h2,h3⟩:=rs.obj _ a _ h1 eS
   exact .base (.lst h2)
  ·rename_i eS
   cases h
   obtain ⟨a,rfl,h1⟩:=rp
   obtain ⟨vs,h2,h3⟩:=rs.obj _ a _ h1 eS
   exact .base (.dK h2)
  ·cases h
 ·cases h
theorem re_isi {x2:Str} {p p3:Pos} {T:String} (hg:Gl X "isinstance") (hm:X.mg "isinstance" = none) (hg2:Gl X x2) (hm2:X.mg x2 = none) (hv2:bootBuiltins x2 = some (.type T)) (ha:RE X W a ma)
  (hv:bootBuiltins "isinstance" = some (.builtin "isinstance"):=by decide +kernel) (hn2:x2 ≠ "__name__" := by decide) (hdb2:(x2 == ("__debug__" : Str)) = false:=by decide)
  (he:starEach [a,.Name x2 p3] X.env = (false,eval a X.env) :: starEach [.Name x2 p3] X.env:=by rfl) (he2:starEach [.Name x2 p3] X.env = (false,eval (.Name x2 p3) X.env) :: starEach [] X.env:=by rfl)
  (hpl:(backTo pos (starEach [.Name x2 p3] X.env)).any (·.1) = false:=by rfl):RE X W (.Call (.Name "isinstance" p) [a,.Name x2 p3] [] pos) (isiM T ma):=by
 refine ⟨pe_weak (pe_callB call_isi hg hm hv (pa_cons ha.pe (pa_cons (pe_bltn (v:=.ty T) hg2 hm2 hv2 rfl hn2 hdb2) pa_nil he2) he) (by decide) (by decide) he hpl) fun σ H Q h => ?_⟩
 obtain ⟨ι,τ,S,r,ρ,pk⟩:=h
 refine ⟨ι,τ,S,r,ρ,pk.next.mono ?_⟩
 rintro x H1 ⟨q,ι1,S1,e1,r1,q1,pk1⟩
 show rIsi X.K [x,.ty T] H1 Q
 unfold isiP at pk1
 cases ht:tyNm q S1 with
 | none => simp only [ht,Option.bind] at pk1; exact pk1.elim
 | some t =>
  simp only [ht,Option.bind] at pk1
  cases hk:kitB t T with
  | none => simp only [hk] at pk1; exact pk1.elim
  | some b =>
   simp only [hk] at pk1
   exact ⟨x,.ty T,.type t,.type T,b,rfl,.ty T,ty_rp r1 q1 ht,kit_ty hk,pk1 _ _ _ .refl r1 rfl⟩
end
end PL
namespace PL
open PySem PySem.Spec PyProof.Rows L2
section
variable {X:Cx} {W:WX} {a b c e o:Expr} {es rest:List Expr} {ma mb mc mo:EM PV} {tA tB':EM Bool} {mas:EM (List PV)} {pos apos cpos p2:Pos}
abbrev OpM:=PV→List PV→Sto→Option (PV × Sto)
def gMt (X:Cx) (f:OpM):V→List V→Hp→VK→Prop:=fun x xs H Q => ∃ ι S p ps v S',RSt X.prog X.w X.K X.mg ι H S∧Rp X.K ι H p x∧RpL X.K ι H ps xs∧f p ps S = some (v,S') ∧
 ∀ ι' H' z,Ext ι H ι' H'→RSt X.prog X.w X.K X.mg ι' H' S'→Rp X.K ι' H' v z→Q z H'
def isTy (T:String) (p:PV) (S:Sto):Bool:=match p with
 | .str _ => T == "str"
 | .fls _ => T == "list"
 | .loc l => match S[l]? with | some (.lst _) => T == "list" | some (.dct _) => T == "dict" | _ => false
 | _ => false
theorem isTy_rp {T:String} {ι : List Addr} {H:Hp} {S:Sto} {p:PV} {x:V} (rs:RSt X.prog X.w X.K X.mg ι H S) (rp:Rp X.K ι H p x) (h:isTy T p S = true):tyV X.K T x H:=by
 unfold isTy at h
 split at h
 ·cases (show x = _ from rp); exact eq_of_beq h
 ·obtain ⟨a,vs,rfl,h1,h2⟩:=rp
  exact .inl ⟨eq_of_beq h,vs,h1.seq⟩
 ·obtain ⟨a,rfl,h1⟩:=rp
  split at h
  ·rename_i eS
   obtain ⟨vs,h2,h3⟩:=rs.obj _ a _ h1 eS
   exact .inl ⟨eq_of_beq h,vs,.of h2⟩
  ·rename_i eS
   obtain ⟨vs,h2,h3⟩:=rs.obj _ a _ h1 eS
   exact .inr (.inr (.inl ⟨eq_of_beq h,.inl ⟨vs,h2⟩⟩))
  ·cases h
 ·cases h
def mtM (T:String) (f:OpM) (m:EM PV) (ms:EM (List PV)):EM PV:=fun τ S => bnd (m τ S) fun p S1 => if isTy T p S1 = true then bnd (ms τ S1) fun ps S2 => lift (f p ps S2) else .bad
theorem re_bm0 {T id:String} {name:Str} {f:OpM} (pa:PlainAttrs T) (slot:Slot T name id) (hty:typeOf (.builtin id) = pure (.type "method_descriptor")) (hm:MtR X id (gMt X f)) (ho:RE X W o mo)
  (hbase:attributeBase o name X.env (eval o X.env) = eval o X.env:=by rfl) (hline:(apos.endLine == cpos.line) = true:=by rfl):RE X W (.Call (.Attribute o name apos) [] [] cpos) (mtM T f mo aN):=by
 refine ⟨pe_weak (pe_bm0 pa slot hty hm ho.pe hbase hline) fun σ H Q h => ?_⟩
 obtain ⟨ι,τ,S,r,ρ,pk⟩:=h
 refine ⟨ι,τ,S,r,ρ,pk.next.mono ?_⟩
 rintro x H1 ⟨p,ι1,S1,e1,r1,q1,pk1⟩
 split at pk1
 ·rename_i ht
  obtain ⟨v,S',hf,k⟩:=pk_lift (show Pk X W (rV X) σ Q ι1 H1 (lift (f p [] S1)) from pk1)
  exact ⟨isTy_rp r1 q1 ht,ι1,S1,p,[],v,S',r1,q1,rfl,hf,k⟩
 ·exact pk1.elim
theorem re_bm {T id:String} {name:Str} {f:OpM} (pa:PlainAttrs T) (slot:Slot T name id) (hty:typeOf (.builtin id) = pure (.type "method_descriptor")) (hm:MtR X id (gMt X f)) (ho:RE X W o mo) (ha:RA X W (e :: es) mas)
  (hbase:attributeBase o name X.env (eval o X.env) = eval o X.env:=by rfl)
  (hfew:((backTo cpos (starEach (e :: es) X.env)).all (fun x => !x.1) && (backToKw cpos (keywordEach [] X.env)).all (fun x => x.1.isSome)
   && decide ((e :: es).length + ([]:List Keyword).length + (if ([]:List Keyword).isEmpty then 0 else 1) < 30)) = true:=by rfl)
  (hline:(apos.endLine == cpos.line) = true:=by rfl) (hs:starEach (e :: es) X.env = (false,eval e X.env) :: starEach es X.env:=by rfl) (hplain:(backTo cpos (starEach es X.env)).any (·.1) = false:=by rfl) :
  RE X W (.Call (.Attribute o name apos) (e :: es) [] cpos) (mtM T f mo mas):=by
 refine ⟨pe_weak (pe_bm pa slot hty hm ho.pe ha.pa hbase hfew hline hs hplain) fun σ H Q h => ?_⟩
 obtain ⟨ι,τ,S,r,ρ,pk⟩:=h
 refine ⟨ι,τ,S,r,ρ,pk.next.mono ?_⟩
 rintro x H1 ⟨p,ι1,S1,e1,r1,q1,pk1⟩
 split at pk1
 ·rename_i ht
  refine ⟨isTy_rp r1 q1 ht,ι1,τ,S1,r1,ρ.up e1,pk1.next.mono ?_⟩
  rintro xs H2 ⟨ps,ι2,S2,e2,r2,q2,pk2⟩
  obtain ⟨v,S',hf,k⟩:=pk_lift pk2
  exact ⟨ι2,S2,p,ps,v,S',r2,q1.up e2,q2,hf,k⟩
 ·exact pk1.elim
theorem nones {ι : List Addr} {H H':Hp} {S':Sto} {Q:VK} (k:∀ ι' H' z,Ext ι H ι' H'→RSt X.prog X.w X.K X.mg ι' H' S'→Rp X.K ι' H' .non z→Q z H') (h:Ext ι H ι H'∧RSt X.prog X.w X.K X.mg ι H' S'):Q .non H':=k ι H' .non h.1 h.2 rfl
def appendP:OpM:=fun p ps S => match p,ps with
 | .loc l,[q] => match S[l]? with | some (.lst xs) => if xs.length < 16777216 then some (.non,S.set l (.lst (xs ++ [q]))) else none | _ => none
 | _,_ => none
theorem om_append:MtR X "list.append" (gMt X appendP):=by
 intro pins s σ H x xs v us Q I rx rxs ⟨ι,S,p,ps,w,S',rs,rp,rps,hf,k⟩
 unfold appendP at hf
 split at hf
 ·split at hf
  ·rename_i ys eS
   split at hf
   ·rename_i hl
    cases hf
    obtain ⟨a,rfl,h1⟩:=rp
    obtain ⟨y,rfl,h2⟩:=rpl1 rps
    obtain ⟨vs,h3,h4⟩:=rs.obj _ a _ h1 eS
    refine mt_append pins s σ H _ _ v us Q I rx rxs ⟨a,vs,y,rfl,rfl,h3,by rw [← h4.length,sizeLine_eq]; exact hl,?_⟩
    exact nones k (rs.wlst h1 (h4.app (RpL.one h2)))
   ·cases hf
  ·cases hf
 ·cases hf
def extendP:OpM:=fun p ps S => match p,ps with
 | .loc l,[.loc m] => match S[l]?,S[m]? with
  | some (.lst xs),some (.lst ys) => if xs.length + ys.length ≤ 16777216 then some (.non,S.set l (.lst (xs ++ ys))) else none
  | _,_ => none
 | _,_ => none
theorem om_extend:MtR X "list.extend" (gMt X extendP):=by
 intro pins s σ H x xs v us Q I rx rxs ⟨ι,S,p,ps,w,S',rs,rp,rps,hf,k⟩
 unfold extendP at hf
 split at hf
 ·split at hf
  ·rename_i ys zs eS eM
   split at hf
   ·rename_i hl
    cases hf
    obtain ⟨a,rfl,h1⟩:=rp
    obtain ⟨y,rfl,b,rfl,h2⟩:=rpl1 rps
    obtain ⟨vs,h3,h4⟩:=rs.obj _ a _ h1 eS
    obtain ⟨ws,h5,h6⟩:=rs.obj _ b _ h2 eM
    refine mt_extend pins s σ H _ _ v us Q I rx rxs ⟨a,b,vs,ws,rfl,rfl,h3,h5,by rw [← h4.length,← h6.length,sizeLine_eq]; exact hl,?_⟩
    exact nones k (rs.wlst h1 (h4.app h6))
   ·cases hf
  ·cases hf
 ·cases hf
def popP:OpM:=fun p ps S => match p with
 | .loc l => match S[l]? with
  | some (.lst xs) => match ps with
   | [] => (xs[xs.length - 1]?).map fun y => (y,S.set l (.lst xs.dropLast))
   | [.int i] => if -4611686018427387904 ≤ i∧i < 4611686018427387904 then (ixN xs.length i).bind fun j => (xs[j]?).map fun y => (y,S.set l (.lst (xs.eraseIdx j))) else none
   | _ => none
  | _ => none
 | _ => none
theorem RpL.dropLast {K:PySem.W.Frag} {ι : List Addr} {H:Hp} {xs:List PV} {vs:List V} (h:RpL K ι H xs vs):RpL K ι H xs.dropLast vs.dropLast:=by
 rw [List.dropLast_eq_take,List.dropLast_eq_take,h.length]
 exact h.take _
theorem RpL.erase {K:PySem.W.Frag} {ι : List Addr} {H:Hp}:∀ {xs:List PV} {vs:List V} (i:Nat),RpL K ι H xs vs→RpL K ι H (xs.eraseIdx i) (vs.eraseIdx i)
 | [],_,i,h => by cases (show _ = _ from h); rfl
 | x :: xs,_,0,h => by
  obtain ⟨v,r,rfl,_,h2⟩:=h
  exact h2
 | x :: xs,_,i + 1,h => by
  obtain ⟨v,r,rfl,h1,h2⟩:=h
  exact ⟨v,r.eraseIdx i,rfl,h1,RpL.erase i h2⟩
theorem om_pop:MtR X "list.pop" (gMt X popP):=by
 intro pins s σ H x xs v us Q I rx rxs ⟨ι,S,p,ps,w,S',rs,rp,rps,hf,k⟩
 unfold popP at hf
 split at hf
 ·split at hf
  ·rename_i ys eS
   obtain ⟨a,rfl,h1⟩:=rp
   obtain ⟨vs,h3,h4⟩:=rs.obj _ a _ h1 eS
   split at hf
   ·cases (show xs = _ from rps)
    cases hy:ys[ys.length - 1]? with
    | none => rw [hy] at hf; cases hf
    | some y =>
     rw [hy] at hf
     cases hf
     obtain ⟨y',h5,h6⟩:=h4.get hy
     obtain ⟨E,r2⟩:=rs.wlst h1 h4.dropLast
     exact mt_pop pins s σ H _ _ v us Q I rx rxs ⟨a,vs,y',rfl,rfl,h3,by rw [← h4.length]; exact h5,k _ _ _ E r2 (h6.up E)⟩
   ·rename_i i
    split at hf
    ·rename_i hi
     obtain ⟨z,rfl,h7⟩:=rpl1 rps
     cases (show z = _ from h7)
     cases hj:ixN ys.length i with
     | none => rw [hj] at hf; cases hf
     | some j =>
      rw [hj] at hf
      simp only [Option.bind] at hf
      cases hy:ys[j]? with
      | none => rw [hy] at hf; cases hf
      | some y =>
       rw [hy] at hf
       cases hf
       obtain ⟨y',h5,h6⟩:=h4.get hy
       obtain ⟨E,r2⟩:=rs.wlst h1 (h4.erase j)
       refine mt_popAt pins s σ H _ _ v us Q I rx rxs ⟨a,vs,i,j,y',rfl,rfl,h3,by omega,by omega,?_,h5,k _ _ _ E r2 (h6.up E)⟩
       rw [← h4.length]
       exact (ixN_seq hj).1
    ·cases hf
   ·cases hf
  ·cases hf
 ·cases hf
def insertP:OpM:=fun p ps S => match p,ps with
 | .loc l,[.int i,q] => match S[l]? with
  | some (.lst xs) => if xs.length < 16777216∧0 ≤ i∧i < 4611686018427387904 then some (.non,S.set l (.lst (xs.take i.toNat ++ [q] ++ xs.drop i.toNat))) else none
  | _ => none
 | _,_ => none
theorem om_insert:MtR X "list.insert" (gMt X insertP):=by
 intro pins s σ H x xs v us Q I rx rxs ⟨ι,S,p,ps,w,S',rs,rp,rps,hf,k⟩
 unfold insertP at hf
 split at hf
 ·rename_i l i q
  split at hf
  ·rename_i ys eS
   split at hf
   ·rename_i hl
    cases hf
    obtain ⟨a,rfl,h1⟩:=rp
    obtain ⟨y,z,rfl,h2,h5⟩:=rpl2 rps
    cases (show y = _ from h2)
    obtain ⟨vs,h3,h4⟩:=rs.obj _ a _ h1 eS
    refine mt_insert pins s σ H _ _ v us Q I rx rxs ⟨a,vs,i,z,rfl,rfl,h3,by rw [← h4.length,sizeLine_eq]; exact hl.1,hl.2.1,by omega,?_⟩
    exact nones k (rs.wlst h1 (((h4.take _).app (RpL.one h5)).app (h4.drop _)))
   ·cases hf
  ·cases hf
 ·cases hf
def strsP:List PV→Option (List Str)
 | [] => some []
 | .str x :: r => (strsP r).map fun xs => x :: xs
 | _ => none
theorem strs_rp {K:PySem.W.Frag} {ι : List Addr} {H:Hp}:∀ {xs:List PV} {bs:List Str} {vs:List V},RpL K ι H xs vs→strsP xs = some bs→vs = bs.map V.str
 | [],bs,_,h,e => by cases e; exact h
 | x :: xs,bs,_,h,e => by
  obtain ⟨v,r,rfl,h1,h2⟩:=h
  cases x with
  | str b =>
   unfold strsP at e
   cases q:strsP xs with
   | none => rw [q] at e; cases e
   | some bs' =>
    rw [q] at e
    cases e
    cases (show v = _ from h1)
    rw [strs_rp h2 q]; rfl
  | _ => cases e
def joinP:OpM:=fun p ps S => match p,ps with
 | .str a,[q] => ((itemsP q S).bind strsP).bind fun ys => if (ys.map (·.length)).sum + ys.length * a.length ≤ 16777216 then some (.str (Txt.join a ys),S) else none
 | _,_ => none
theorem om_join:MtR X "str.join" (gMt X joinP):=by
 intro pins s σ H x xs v us Q I rx rxs ⟨ι,S,p,ps,w,S',rs,rp,rps,hf,k⟩
 unfold joinP at hf
 split at hf
 ·rename_i a q
  cases hi:itemsP q S with
  | none => rw [hi] at hf; cases hf
  | some xs =>
   rw [hi] at hf
   simp only [Option.bind] at hf
   cases hy:strsP xs with
   | none => rw [hy] at hf; cases hf
   | some ys =>
    rw [hy] at hf
    simp only at hf
    split at hf
    ·rename_i hl
     cases hf
     cases (show x = _ from rp)
     obtain ⟨y,rfl,h2⟩:=rpl1 rps
     obtain ⟨b,vs,rfl,h3,h4⟩:=items_rp rs h2 hi
     have e:=strs_rp h3 hy
     subst e
     exact mt_join pins s σ H _ _ v us Q I rx rxs ⟨a,b,ys,rfl,rfl,h4.imp id (·.2),hl,k _ _ _ .refl rs rfl⟩
    ·cases hf
 ·cases hf
end
end PL
namespace PL
open PySem PySem.Spec PyProof.Rows L2
abbrev FM:=List PV→Sto→Out PV
def spD (ΩP:Program) (Ωw:World) (K:PySem.W.Frag) (mg:Str→Option Value) (n:Nat) (F:FM):Sp:=fun vs H Q E => ∃ ι S ps,RSt ΩP Ωw K mg ι H S∧RpL K ι H ps vs∧ps.length = n ∧
 wp (F ps S) (fun v S' => ∀ ι' H' x,Ext ι H ι' H'→RSt ΩP Ωw K mg ι' H' S'→Rp K ι' H' v x→Q x H')
  (fun c p S' => ∀ ι' H' Ca d x,Ext ι H ι' H'→RSt ΩP Ωw K mg ι' H' S'→mg c = some (.ref Ca)→H' d = some (.xd [("what",x)])→Rp K ι' H' p x→E (.ref Ca) (some d) H')
theorem spD_len {K:PySem.W.Frag} {mg:Str→Option Value} {n:Nat} {F:FM}:∀ vs H Q E,spD ΩP Ωw K mg n F vs H Q E→vs.length = n:=fun vs H Q E ⟨ι,S,ps,_,r,l,_⟩ => by rw [← r.length]; exact l
def callS (n:Nat) (body:SM):FM:=fun ps S => match body (startE n ps) S with
 | .nx _ S' => .ok .non S'
 | .rt v S' => .ok v S'
 | .er c p _ S' => .er c p S'
 | .bad => .bad
def callD (F:FM) (ms:EM (List PV)):EM PV:=fun τ S => bnd (ms τ S) F
section
variable {X:Cx} {W:WX} {a b c e o:Expr} {es rest:List Expr} {ma mb mc mo:EM PV} {tA tB':EM Bool} {mas:EM (List PV)} {pos apos cpos p2:Pos}
theorem call_wish {n:Nat} {F:FM} {σ : L2.St} {Q:VK} {ι : List Addr} {H:Hp} {S:Sto} {ps:List PV} {vs:List V} (r:RSt X.prog X.w X.K X.mg ι H S) (q:RpL X.K ι H ps vs) (hn:ps.length = n) (pk:Pk X W (rV X) σ Q ι H (F ps S)):spD X.prog X.w X.K X.mg n F vs H Q (WE W σ) :=
 ⟨ι,S,ps,r,q,hn,wp_mono pk (fun _ _ k => k) fun c p S' k ι' H' Ca d x e r m hd hp => k ι' H' Ca d x e r m hd hp⟩
theorem re_call {x:Str} {p:Pos} {n k:Nat} {F:FM} {f:Addr} {fd:FuncData} {ps:List Str} (G:FnOk X.prog X.w X.K X.mg X.base (L2.CX X.prog X.w) k f fd ps (spD X.prog X.w X.K X.mg n F)) (hr:Room k X.A) (hg:Gl X x) (hm:X.mg x = some (.ref f)) (hk:PySem.W.keepIn X.K (.ref f) = true) (hb:Binds X.K fd ps [])
  (tk:Takes X W) (ha:RA X W (e :: es) mas) (hn:∀ τ S qs S',mas τ S = .ok qs S'→qs.length = n) (hdb:(x == ("__debug__" : Str)) = false:=by decide) (he:starEach (e :: es) X.env = (false,eval e X.env) :: starEach es X.env:=by rfl) (hpl:(backTo pos (starEach es X.env)).any (·.1) = false:=by rfl) :
  RE X W (.Call (.Name x p) (e :: es) [] pos) (callD F mas):=by
 refine ⟨pe_weak (pe_callSD (dvs:=[]) (E:=WE W) G hr hg hm hk hb .nil (fun σ => passAt tk σ) ha.pa hdb he hpl) fun σ H Q h => ?_⟩
 obtain ⟨ι,τ,S,r,ρ,pk⟩:=h
 refine ⟨ι,τ,S,r,ρ,?_⟩
 have hn':=hn τ S
 unfold callD at pk
 cases hm:mas τ S with
 | bad => rw [hm] at pk; exact pk.elim
 | er c p S' => rw [hm] at pk; exact pk
 | ok qs S1 =>
  have hl:=hn' qs S1 hm
  rw [hm] at pk
  show ∀ ι' H' x,Ext ι H ι' H'→RSt X.prog X.w X.K X.mg ι' H' S1→RpL X.K ι' H' qs x→spD X.prog X.w X.K X.mg n F (x ++ []) H' Q (WE W σ)
  intro ι' H' x e' r' q'
  rw [List.append_nil]
  exact call_wish r' q' hl (Pk.up (o:=F qs S1) pk e')
theorem aN_len:∀ (τ : En) (S:Sto) (qs:List PV) (S':Sto),aN τ S = .ok qs S'→qs.length = 0:=fun τ S qs S' h => by cases h; rfl
theorem aC_len {n:Nat} {m:EM PV} {ms:EM (List PV)} (h:∀ (τ : En) (S:Sto) (qs:List PV) (S':Sto),ms τ S = .ok qs S'→qs.length = n):∀ (τ : En) (S:Sto) (qs:List PV) (S':Sto),aC m ms τ S = .ok qs S'→qs.length = n + 1:=fun τ S qs S' hh => by
 unfold aC at hh
 cases h1:m τ S with
 | bad => rw [h1] at hh; cases hh
 | er c p S1 => rw [h1] at hh; cases hh
 | ok p S1 =>
  rw [h1] at hh
  simp only [bnd_ok] at hh
  cases h2:ms τ S1 with
  | bad => rw [h2] at hh; cases hh
  | er c p S1 => rw [h2] at hh; cases hh
  | ok ps S2 =>
   rw [h2] at hh
   cases hh
   simp [h τ S1 ps S' h2]
def PkS (X:Cx) (W:WX) (D:Ends) (ι : List Addr) (H:Hp) (o:OS):Prop :=
 wpS o (fun τ' S' => ∀ ι' H' σ',Ext ι H ι' H'→RSt X.prog X.w X.K X.mg ι' H' S'→REn X.K ι' H' τ' σ'→D.nx σ' H')
  (fun v S' => ∀ ι' H' x,Ext ι H ι' H'→RSt X.prog X.w X.K X.mg ι' H' S'→Rp X.K ι' H' v x→D.rt x H')
  (fun c p τ' S' => ∀ ι' H' σ' Ca d x,Ext ι H ι' H'→RSt X.prog X.w X.K X.mg ι' H' S'→REn X.K ι' H' τ' σ'→X.mg c = some (.ref Ca)→H' d = some (.xd [("what",x)])→Rp X.K ι' H' p x→W (.ref Ca) (some d) σ' H')
theorem PkS.up {D:Ends} {ι ι1:List Addr} {H H1:Hp} {o:OS} (h:PkS X W D ι H o) (e:Ext ι H ι1 H1):PkS X W D ι1 H1 o :=
 wpS_mono h (fun τ S k ι' H' σ' e' => k ι' H' σ' (e.trans e')) (fun v S k ι' H' x e' => k ι' H' x (e.trans e')) fun c p τ S k ι' H' σ' Ca d x e' => k ι' H' σ' Ca d x (e.trans e')
def gS (X:Cx) (W:WX) (m:SM):TS:=fun D σ H => ∃ ι τ S,RSt X.prog X.w X.K X.mg ι H S∧REn X.K ι H τ σ∧PkS X W D ι H (m τ S)
structure RS (X:Cx) (W:WX) (st:Stmt) (m:SM):Prop where
 ps:PS X st (gS X W m)
structure RSs (X:Cx) (W:WX) (st:List Stmt) (m:SM):Prop where
 pss:PSs X st (gS X W m)
theorem ps_weak {st:Stmt} {t t':TS} (h:PS X st t) (w:∀ D σ H,t' D σ H→t D σ H):PS X st t':=⟨fun pins s σ H D I hh => h.run pins s σ H D I (w D σ H hh)⟩
theorem pss_weak {st:List Stmt} {t t':TS} (h:PSs X st t) (w:∀ D σ H,t' D σ H→t D σ H):PSs X st t':=⟨fun pins s σ H D I hh => h.run pins s σ H D I (w D σ H hh)⟩
def bndS {α : Type} (o:Out α) (τ : En) (f : α→Sto→OS):OS:=match o with
 | .ok a S => f a S
 | .er c p S => .er c p τ S
 | .bad => .bad
@[simp] theorem bndS_ok {α : Type} (a : α) (S:Sto) (τ : En) (f : α→Sto→OS):bndS (.ok a S) τ f = f a S:=rfl
@[simp] theorem bndS_er {α : Type} (c:Str) (p:PV) (S:Sto) (τ : En) (f : α→Sto→OS):bndS (.er c p S) τ f = .er c p τ S:=rfl
@[simp] theorem bndS_bad {α : Type} (τ : En) (f : α→Sto→OS):bndS (.bad:Out α) τ f = .bad:=rfl
theorem wpS_bndS {α : Type} (o:Out α) (τ : En) (f : α→Sto→OS) (N:En→Sto→Prop) (T:PV→Sto→Prop) (R:Str→PV→En→Sto→Prop):wpS (bndS o τ f) N T R = wp o (fun a S => wpS (f a S) N T R) (fun c p S => R c p τ S):=by
 cases o <;> rfl
theorem PkS.next {α β : Type} {R:RR α β} {D:Ends} {σ : L2.St} {ι : List Addr} {H:Hp} {τ : En} {o:Out α} {f : α→Sto→OS} (ρ : REn X.K ι H τ σ) (h:PkS X W D ι H (bndS o τ f)) :
  Pk X W R σ (fun x H1 => ∃ a ι1 S1,Ext ι H ι1 H1∧RSt X.prog X.w X.K X.mg ι1 H1 S1∧R ι1 H1 a x∧PkS X W D ι1 H1 (f a S1)) ι H o:=by
 unfold PkS at h
 rw [wpS_bndS] at h
 exact wp_mono h (fun a S k ι' H' x e r q => ⟨a,ι',S,e,r,q,PkS.up (o:=f a S) k e⟩) fun c p S k ι' H' Ca d x e r m hd hp => k ι' H' σ Ca d x e r (ρ.up e) m hd hp
def nopS:SM:=fun τ S => .nx τ S
def seqO (o:OS) (k:SM):OS:=match o with
 | .nx τ S => k τ S
 | o => o
@[simp] theorem seqO_nx (τ : En) (S:Sto) (k:SM):seqO (.nx τ S) k = k τ S:=rfl
@[simp] theorem seqO_rt (v:PV) (S:Sto) (k:SM):seqO (.rt v S) k = .rt v S:=rfl
@[simp] theorem seqO_er (c:Str) (p:PV) (τ : En) (S:Sto) (k:SM):seqO (.er c p τ S) k = .er c p τ S:=rfl
@[simp] theorem seqO_bad (k:SM):seqO .bad k = .bad:=rfl
theorem wpS_seqO (o:OS) (k:SM) (N:En→Sto→Prop) (T:PV→Sto→Prop) (R:Str→PV→En→Sto→Prop):wpS (seqO o k) N T R = wpS o (fun τ S => wpS (k τ S) N T R) T R:=by
 cases o <;> rfl
def seqS (s t:SM):SM:=fun τ S => seqO (s τ S) t
theorem rss_nil:RSs X W [] nopS:=⟨pss_weak pss_nil fun D σ H ⟨ι,τ,S,r,ρ,pk⟩ => pk ι H σ .refl r ρ⟩
theorem rss_cons {st:Stmt} {rest:List Stmt} {m k:SM} (h1:RS X W st m) (h2:RSs X W rest k):RSs X W (st :: rest) (seqS m k):=by
 refine ⟨pss_weak (pss_cons h1.ps h2.pss) fun D σ H ⟨ι,τ,S,r,ρ,pk⟩ => ⟨ι,τ,S,r,ρ,?_⟩⟩
 unfold PkS seqS at pk
 rw [wpS_seqO] at pk
 exact wpS_mono pk (fun τ' S' w ι' H' σ' e r' ρ' => ⟨ι',τ',S',r',ρ',PkS.up (o:=k τ' S') w e⟩) (fun _ _ k => k) fun _ _ _ _ k => k
theorem rss_one {st:Stmt} {m:SM} (h1:RS X W st m):RSs X W [st] m:=⟨pss_one h1.ps⟩
def neverS:SM:=fun _ _ => .bad
theorem rs_never {st:Stmt}:RS X W st neverS:=⟨ps_weak ps_never fun D σ H ⟨ι,τ,S,r,ρ,pk⟩ => pk.elim⟩
def exprS (m:EM PV):SM:=fun τ S => bndS (m τ S) τ fun _ S1 => .nx τ S1
theorem rs_expr (he:RE X W e ma) (hs:swapsWith e none pos.line X.env = pure false:=by rfl):RS X W (.Expr e pos) (exprS ma) :=
 ⟨ps_weak (ps_expr he.pe hs) fun D σ H ⟨ι,τ,S,r,ρ,pk⟩ => ⟨ι,τ,S,r,ρ,(PkS.next (R:=rV X) ρ pk).mono fun x H1 ⟨p,ι1,S1,e1,r1,q1,pk1⟩ => pk1 ι1 H1 σ .refl r1 (ρ.up e1)⟩⟩
def retS (m:EM PV):SM:=fun τ S => bndS (m τ S) τ fun v S1 => .rt v S1
theorem rs_ret (he:RE X W e ma):RS X W (.Return (some e) pos) (retS ma) :=
 ⟨ps_weak (ps_ret he.pe) fun D σ H ⟨ι,τ,S,r,ρ,pk⟩ => ⟨ι,τ,S,r,ρ,(PkS.next (R:=rV X) ρ pk).mono fun x H1 ⟨p,ι1,S1,e1,r1,q1,pk1⟩ => pk1 ι1 H1 x .refl r1 q1⟩⟩
def ifS (c:EM Bool) (s t:SM):SM:=fun τ S => bndS (c τ S) τ fun k S1 => if k = true then s τ S1 else t τ S1
theorem rs_if {sa sb:List Stmt} {s t:SM} (hc:RT X W c tA) (ha:RSs X W sa s) (hb:RSs X W sb t):RS X W (.If c sa sb pos) (ifS tA s t):=by
 refine ⟨ps_weak (ps_if hc.pt ha.pss hb.pss) fun D σ H ⟨ι,τ,S,r,ρ,pk⟩ => ⟨ι,τ,S,r,ρ,(PkS.next (R:=rB) ρ pk).mono fun x H1 ⟨p,ι1,S1,e1,r1,q1,pk1⟩ => ?_⟩⟩
 have q1:p = x:=q1
 subst q1
 cases p with
 | true => exact ⟨ι1,τ,S1,r1,ρ.up e1,pk1⟩
 | false => exact ⟨ι1,τ,S1,r1,ρ.up e1,pk1⟩
abbrev GM:=PV→En→Option En
abbrev GMs:=List PV→En→Option En
def Ch (sl:List Nat) (σ σ':L2.St):Prop:=∀ vs,(∀ i ∈ sl,i ∈ vs)→wipe σ' vs = wipe σ vs
theorem wipe_set {σ : L2.St} {i:Nat} {x:Option V}:∀ {vs:List Nat},i ∈ vs→wipe (σ.set i x) vs = wipe σ vs
 | v :: vs,h => by
  unfold wipe
  by_cases hm:i ∈ vs
  ·rw [wipe_set hm]
  ·have e:i = v:=by
    rcases List.mem_cons.mp h with h | h
    ·exact h
    ·exact absurd h hm
   subst e
   have comm:∀ ws:List Nat,i ∉ ws→wipe (σ.set i x) ws = (wipe σ ws).set i x:=by
    intro ws
    induction ws with
    | nil => intro _; rfl
    | cons w ws ih =>
     intro hw
     unfold wipe
     rw [ih (fun z => hw (List.mem_cons_of_mem _ z)),List.set_comm _ _ (fun z => hw (by rw [z]; exact List.mem_cons_self))]
   rw [comm vs hm,List.set_set]
theorem Ch.one {σ : L2.St} {i:Nat} {x:Option V}:Ch [i] σ (σ.set i x):=fun vs h => wipe_set (h i (by simp))
theorem Ch.refl {σ : L2.St}:Ch [] σ σ:=fun _ _ => rfl
theorem Ch.trans {s1 s2:List Nat} {σ σ1 σ2:L2.St} (a:Ch s1 σ σ1) (b:Ch s2 σ1 σ2):Ch (s1 ++ s2) σ σ2:=fun vs h =>
 (b vs fun i hi => h i (List.mem_append_right _ hi)).trans (a vs fun i hi => h i (List.mem_append_left _ hi))
def gG (X:Cx) (g:GM) (sl:List Nat):TG:=fun v σ H Q => ∃ ι τ S p τ',RSt X.prog X.w X.K X.mg ι H S∧REn X.K ι H τ σ∧Rp X.K ι H p v∧g p τ = some τ'∧∀ σ',REn X.K ι H τ' σ'→Ch sl σ σ'→Q σ' H
def gGs (X:Cx) (g:GMs) (sl:List Nat):TGs:=fun vs σ H Q => ∃ ι τ S ps τ',RSt X.prog X.w X.K X.mg ι H S∧REn X.K ι H τ σ∧RpL X.K ι H ps vs∧g ps τ = some τ'∧∀ σ',REn X.K ι H τ' σ'→Ch sl σ σ'→Q σ' H
structure RG (X:Cx) (tg:Expr) (g:GM) (sl:List Nat):Prop where
 pg:PG X tg (gG X g sl)
structure RGs (X:Cx) (tg:List Expr) (g:GMs) (sl:List Nat):Prop where
 pgs:PGs X tg (gGs X g sl)
theorem pg_weak {tg:Expr} {t t':TG} (h:PG X tg t) (w:∀ v σ H Q,t' v σ H Q→t v σ H Q):PG X tg t':=⟨fun pins s σ H v u Q I r hh => h.run pins s σ H v u Q I r (w v σ H Q hh)⟩
theorem pgs_weak {tg:List Expr} {t t':TGs} (h:PGs X tg t) (w:∀ v σ H Q,t' v σ H Q→t v σ H Q):PGs X tg t':=⟨fun pins s σ H v u Q I r hh => h.run pins s σ H v u Q I r (w v σ H Q hh)⟩
def gN (i:Nat):GM:=fun p τ => some (τ.set i (some p))
def gsN:GMs:=fun ps τ => match ps with | [] => some τ | _ => none
def gsC (g:GM) (h:GMs):GMs:=fun ps τ => match ps with | p :: r => (g p τ).bind fun τ1 => h r τ1 | _ => none
def gT (n:Nat) (g:GMs):GM:=fun p τ => match p with | .tup xs => if xs.length = n then g xs τ else none | _ => none
theorem rg_name (i:Nat) {x:Str} (hN:X.N.Nodup) (hi:X.N[i]? = some x) (hx:Loc X.env.scope x) (hf:X.fn x = true ∨ X.env.scope.names.lookup x = some .local:=by first | exact .inl rfl | exact .inr rfl | assumption):RG X (.Name x pos) (gN i) [i] :=
 ⟨pg_weak (pg_name hN hi hx hf) fun v σ H Q ⟨ι,τ,S,p,τ',r,ρ,q,e,k⟩ => by cases e; exact k _ (ρ.set i q) .one⟩
theorem rgs_nil:RGs X [] gsN []:=⟨pgs_weak pgs_nil fun vs σ H Q ⟨ι,τ,S,ps,τ',r,ρ,q,e,k⟩ => by
 unfold gsN at e
 split at e
 ·cases e; cases (show vs = _ from q); exact ⟨rfl,k _ ρ .refl⟩
 ·cases e⟩
theorem rgs_cons {tg:Expr} {tgs:List Expr} {g:GM} {h:GMs} {s1 s2:List Nat} (h1:RG X tg g s1) (h2:RGs X tgs h s2) (hs:(assignEach (tg :: tgs) X.env).map (·.2) = assign tg X.env :: (assignEach tgs X.env).map (·.2):=by rfl):RGs X (tg :: tgs) (gsC g h) (s1 ++ s2) :=
 ⟨pgs_weak (pgs_cons h1.pg h2.pgs hs) fun vs σ H Q ⟨ι,τ,S,ps,τ',r,ρ,q,e,k⟩ => by
  unfold gsC at e
  split at e
  ·rename_i p pr
   obtain ⟨v,w,rfl,q1,q2⟩:=q
   cases hg:g p τ with
   | none => rw [hg] at e; cases e
   | some τ1 =>
    rw [hg] at e
    exact ⟨v,w,rfl,ι,τ,S,p,τ1,r,ρ,q1,hg,fun σ1 ρ1 c1 => ⟨ι,τ1,S,pr,τ',r,ρ1,q2,e,fun σ2 ρ2 c2 => k σ2 ρ2 (c1.trans c2)⟩⟩
  ·cases e⟩
theorem rg_tup {k n:Nat} {es:List Expr} {g:GMs} {sl:List Nat} (hc:X.calm = true) (h:RGs X es g sl) (hn:(assignEach es X.env).length = n:=by rfl) (hst:(assignEach es X.env).findIdx? (·.1) = none:=by rfl):RG X (.Tuple es k pos) (gT n g) sl :=
 ⟨pg_weak (pg_tup hc h.pgs hn hst) fun v σ H Q ⟨ι,τ,S,p,τ',r,ρ,q,e,k⟩ => by
  unfold gT at e
  split at e
  ·rename_i xs
   split at e
   ·rename_i hl
    obtain ⟨a,vs,rfl,h1,h2⟩:=q
    exact ⟨a,vs,rfl,h1.seq,by rw [← h2.length]; exact hl,ι,τ,S,xs,τ',r,ρ,h2,e,k⟩
   ·cases e
  ·cases e⟩
def asgS (m:EM PV) (g:GM):SM:=fun τ S => bndS (m τ S) τ fun v S1 => match g v τ with | some τ1 => .nx τ1 S1 | none => .bad
theorem asg_read {g:GM} {sl:List Nat} (D:Ends) (σ : L2.St) (H:Hp) (h:gS X W (asgS ma g) D σ H):tAsg (gE X W (rV X) ma) (gG X g sl) D σ H:=by
 obtain ⟨ι,τ,S,r,ρ,pk⟩:=h
 refine ⟨ι,τ,S,r,ρ,(PkS.next (R:=rV X) ρ pk).mono fun x H1 ⟨p,ι1,S1,e1,r1,q1,pk1⟩ => ?_⟩
 cases hg:g p τ with
 | none => rw [hg] at pk1; exact pk1.elim
 | some τ1 =>
  rw [hg] at pk1
  exact ⟨ι1,τ,S1,p,τ1,r1,ρ.up e1,q1,hg,fun σ' ρ' _ => pk1 ι1 H1 σ' .refl r1 ρ'⟩
theorem rs_asg {tg:Expr} {g:GM} {sl:List Nat} (he:RE X W e ma) (hg:RG X tg g sl) (hs:swapsWithSole [tg] e pos.line X.env = pure false:=by rfl) (hw:swappedStores [tg] e X.env = pure none:=by rfl)
  (h1:(assignEach [tg] X.env).map (·.2) = [assign tg X.env]:=by rfl):RS X W (.Assign [tg] e pos) (asgS ma g):=⟨ps_weak (ps_asg he.pe hg.pg hs hw h1) asg_read⟩
theorem rs_set (i:Nat) {x:Str} {pos':Pos} (hN:X.N.Nodup) (hi:X.N[i]? = some x) (hx:Loc X.env.scope x) (he:RE X W e ma) (hs:swapsWith e (some (.Name x pos')) pos.line X.env = pure false:=by rfl) (hf:X.fn x = true ∨ X.env.scope.names.lookup x = some .local:=by first | exact .inl rfl | exact .inr rfl | assumption) :
  RS X W (.Assign [.Name x pos'] e pos) (asgS ma (gN i)) :=
 ⟨ps_weak (ps_set hN hi hx he.pe hs hf) fun D σ H h => by
  obtain ⟨ι,τ,S,r,ρ,pk⟩:=h
  refine ⟨ι,τ,S,r,ρ,(PkS.next (R:=rV X) ρ pk).mono fun x H1 ⟨p,ι1,S1,e1,r1,q1,pk1⟩ => ?_⟩
  exact pk1 ι1 H1 _ .refl r1 ((ρ.up e1).set i q1)⟩
def setP (o i v:PV) (S:Sto):Option Sto:=match o,i with
 | .loc l,.int k => match S[l]? with | some (.lst xs) => (ixN xs.length k).map fun j => S.set l (.lst (xs.set j v)) | _ => none
 | _,_ => none
def setS (m mo mi:EM PV):SM:=fun τ S => bndS (m τ S) τ fun v S1 => bndS (mo τ S1) τ fun o S2 => bndS (mi τ S2) τ fun i S3 => match setP o i v S3 with | some S4 => .nx τ S4 | none => .bad
theorem rs_sub {i:Expr} {mi:EM PV} {pos':Pos} (he:RE X W e ma) (ho:RE X W o mo) (hi:RE X W i mi)
  (hs:swapsWithSole [.Subscript o i pos'] e pos.line X.env = pure false:=by rfl) (hw:swappedStores [.Subscript o i pos'] e X.env = pure none:=by rfl)
  (h1:(assignEach [.Subscript o i pos'] X.env).map (·.2) = [assign (.Subscript o i pos') X.env]:=by rfl)
  (ha:∀ v,assign (.Subscript o i pos') X.env v = (do
   let ov ← holding [v] (eval o X.env)
   let iv ← holding [v,ov] (eval i X.env)
   standAt pos'
   holding [v,ov,iv] (setItem ov iv v)
   release [v,ov,iv] []):=by intro _; rfl):RS X W (.Assign [.Subscript o i pos'] e pos) (setS ma mo mi):=by
 refine ⟨ps_weak (ps_asg he.pe (pg_sub ho.pe hi.pe set_list ha) hs hw h1) fun D σ H h => ?_⟩
 obtain ⟨ι,τ,S,r,ρ,pk⟩:=h
 refine ⟨ι,τ,S,r,ρ,(PkS.next (R:=rV X) ρ pk).mono fun x H1 ⟨p,ι1,S1,e1,r1,q1,pk1⟩ => ?_⟩
 refine ⟨ι1,τ,S1,r1,ρ.up e1,(PkS.next (R:=rV X) (ρ.up e1) pk1).mono fun y H2 ⟨q,ι2,S2,e2,r2,q2,pk2⟩ => ?_⟩
 refine ⟨ι2,τ,S2,r2,(ρ.up e1).up e2,(PkS.next (R:=rV X) ((ρ.up e1).up e2) pk2).mono fun z H3 ⟨i,ι3,S3,e3,r3,q3,pk3⟩ => ?_⟩
 have ρ3:=((ρ.up e1).up e2).up e3
 have q1:=(q1.up e2).up e3
 have q2:=q2.up e3
 unfold setP at pk3
 split at pk3
 ·rename_i S4 hS
  split at hS
  ·split at hS
   ·rename_i xs eS
    obtain ⟨a,rfl,h1⟩:=q2
    cases (show z = _ from q3)
    obtain ⟨vs,h2,h3⟩:=r3.obj _ a _ h1 eS
    rw [h3.length] at hS
    obtain ⟨j,hj,rfl⟩:=Option.map_eq_some_iff.mp hS
    obtain ⟨E,r4⟩:=r3.wlst h1 (h3.set j q1)
    exact ⟨a,vs,_,j,rfl,rfl,h2,hj,pk3 _ _ _ E r4 (ρ3.up E)⟩
   ·cases hS
  ·cases hS
 ·exact pk3.elim
end
end PL
namespace PL
open PySem PySem.Spec PyProof.Rows L2
open Classical in
structure Wk where
 items:List PV
 g:List (Nat × Ob):=[]
def Wk.ok (t:Wk) (S:Sto):Prop:=∀ p ∈ t.g,S[p.1]? = some p.2
section
variable {X:Cx} {W:WX} {a b c e o tg iter:Expr} {es rest:List Expr} {ma mb mc mo:EM PV} {tA tB':EM Bool} {mas:EM (List PV)} {pos apos cpos p2:Pos}
def ItOk (X:Cx):RR Wk It:=fun ι H t J => ∀ (i:Nat) ι2 H2 S2,ExtW ι H ι2 H2→RSt X.prog X.w X.K X.mg ι2 H2 S2→t.ok S2 →
 (i < t.items.length→J.go i H2∧∀ x H3,J.yld i H2 x H3→∃ p,t.items[i]? = some p∧Ext ι2 H2 ι2 H3∧RSt X.prog X.w X.K X.mg ι2 H3 S2∧Rp X.K ι2 H3 p x)∧(t.items.length ≤ i→J.stop i H2)
structure RI (X:Cx) (W:WX) (tg iter:Expr) (m:EM Wk):Prop where
 pi:PI X tg iter (gE X W (ItOk X) m)
theorem pi_weak {t t':TI} (h:PI X tg iter t) (w:∀ σ H R,t' σ H R→t σ H R):PI X tg iter t':=⟨fun pins s σ H R I hh => h.run pins s σ H R I (w σ H R hh)⟩
def itrP (p:PV) (S:Sto):Option Wk:=match p with
 | .tup xs => some ⟨xs,[]⟩
 | .fls xs => some ⟨xs,[]⟩
 | .str x => some ⟨x.cps.toList.map fun c => .str ⟨#[c]⟩,[]⟩
 | .loc l => match S[l]? with | some (.lst xs) => some ⟨xs,[(l,.lst xs)]⟩ | _ => none
 | _ => none
def seqM (m:EM PV):EM Wk:=fun τ S => bnd (m τ S) fun p S1 => match itrP p S1 with | some t => .ok t S1 | none => .bad
def iAny (K:PySem.W.Frag) (tl:TE):TI:=fun σ H R => tl σ H fun x H1 =>
 (∃ a,x = .ref a∧(∃ xs,SqL K H1 a xs)∧R (Itl K a) H1) ∨ (∃ a,x = .ref a∧(∃ xs,SqT K H1 a xs)∧R (Itt K a) H1) ∨ ∃ z,x = .str z∧R (Its z) H1
theorem pi_any {l:Expr} {tl:TE} (hl:PE X l tl):PI X tg l (iAny X.K tl):=by
 refine ⟨fun pins s σ H R I h => ?_⟩
 refine thn (hl.run pins s σ H _ I h) fun v s1 ⟨x,H1,I1,r1,q1⟩ => ?_
 rcases q1 with ⟨a,e,⟨xs,hq⟩,q⟩ | ⟨a,e,⟨xs,hq⟩,q⟩ | ⟨z,e,q⟩
 ·subst e
  cases r1
  obtain ⟨its,rv,p,hz⟩:=I1.list hq
  refine wpAny_pyIter_list p.isList ?_
  refine ⟨s1.heap.objs.size,[s1.heap.objs.size],_,_,H1,rfl,I1.kept (t':=s1.toks) fun b o e => Heap.get?_push_of_some _ e,turn_list a _,⟨_,Heap.get?_push_size _ rfl,rfl,rfl⟩,fun b hb => ?_,q⟩
  have e:b = s1.heap.objs.size:=by simpa using hb
  subst e
  exact I1.fpOk (Nat.le_refl _) (I1.hok.fresh (Nat.le_refl _))
 ·subst e
  cases r1
  obtain ⟨its,rv,p,hz⟩:=I1.tuple hq
  refine wpAny_pyIter_tuple (show s1.heap.IsTuple a its.toArray from p) ?_
  refine ⟨s1.heap.objs.size,[s1.heap.objs.size],_,_,H1,rfl,I1.kept (t':=s1.toks) fun b o e => Heap.get?_push_of_some _ e,turn_tuple a _,⟨_,Heap.get?_push_size _ rfl,rfl,rfl⟩,fun b hb => ?_,q⟩
  have e:b = s1.heap.objs.size:=by simpa using hb
  subst e
  exact I1.fpOk (Nat.le_refl _) (I1.hok.fresh (Nat.le_refl _))
 ·subst e
  obtain ⟨t,rfl⟩:=r1
  cases ha:z.cps.all (· < 128)
  ·exact wpAny_pyIter_wide ha (pi_one (tk:=s1.toks) I1 _ (turn_str _ z t "str_iterator" (.inr rfl)) ⟨_,Heap.get?_push_size _ rfl,rfl,rfl⟩ q)
  ·exact wpAny_pyIter_ascii ha (pi_one (tk:=s1.toks) I1 _ (turn_str _ z t "str_ascii_iterator" (.inl rfl)) ⟨_,Heap.get?_push_size _ rfl,rfl,rfl⟩ q)
theorem get_len {α : Type} {xs:List α} {i:Nat} (h:i < xs.length):∃ x,xs[i]? = some x:=⟨xs[i],List.getElem?_eq_getElem h⟩
theorem itr_ok {ι : List Addr} {H:Hp} {S:Sto} {p:PV} {x:V} {t:Wk} {R:It→Hp→Prop} (rs:RSt X.prog X.w X.K X.mg ι H S) (rp:Rp X.K ι H p x) (h:itrP p S = some t) (k:∀ J,ItOk X ι H t J→R J H) :
  (∃ a,x = .ref a∧(∃ xs,SqL X.K H a xs)∧R (Itl X.K a) H) ∨ (∃ a,x = .ref a∧(∃ xs,SqT X.K H a xs)∧R (Itt X.K a) H) ∨ ∃ z,x = .str z∧R (Its z) H:=by
 unfold itrP at h
 split at h
 ·rename_i xs
  cases h
  obtain ⟨a,vs,rfl,h1,h2⟩:=rp
  refine .inr (.inl ⟨a,rfl,⟨vs,h1.seq⟩,k _ fun i ι2 H2 S2 e r2 _ => ⟨fun hi => ?_,fun hi => ?_⟩⟩)
  ·have hi:i < xs.length:=hi
   obtain ⟨p,hp⟩:=get_len hi
   obtain ⟨v,hv,rv⟩:=h2.get hp
   exact ⟨⟨vs,v,(h1.upW e).seq,hv⟩,fun x H3 hy => by
    obtain ⟨rfl,hf⟩:=hy
    have e1:=hf vs (h1.upW e).seq
    rw [hv] at e1; cases e1
    exact ⟨p,hp,.refl,r2,Rp.upW e _ _ rv⟩⟩
  ·exact ⟨vs,(h1.upW e).seq,by rw [← h2.length]; exact hi⟩
 ·rename_i xs
  cases h
  obtain ⟨a,vs,rfl,h1,h2⟩:=rp
  refine .inl ⟨a,rfl,⟨vs,h1.seq⟩,k _ fun i ι2 H2 S2 e r2 _ => ⟨fun hi => ?_,fun hi => ?_⟩⟩
  ·have hi:i < xs.length:=hi
   obtain ⟨p,hp⟩:=get_len hi
   obtain ⟨v,hv,rv⟩:=h2.get hp
   exact ⟨⟨vs,v,(h1.upW e).seq,hv⟩,fun x H3 hy => by
    obtain ⟨rfl,hf⟩:=hy
    have e1:=hf vs (h1.upW e).seq
    rw [hv] at e1; cases e1
    exact ⟨p,hp,.refl,r2,Rp.upW e _ _ rv⟩⟩
  ·exact ⟨vs,(h1.upW e).seq,by rw [← h2.length]; exact hi⟩
 ·rename_i z
  cases h
  cases (show x = _ from rp)
  refine .inr (.inr ⟨z,rfl,k _ fun i ι2 H2 S2 e r2 _ => ⟨fun hi => ?_,fun hi => ?_⟩⟩)
  ·have hi':i < z.cps.size:=by simpa using hi
   exact ⟨hi',fun x H3 hy => by
    obtain ⟨rfl,c,hc,rfl⟩:=hy
    exact ⟨.str ⟨#[c]⟩,by simp [hc],.refl,r2,rfl⟩⟩
  ·show z.cps.size ≤ i
   simpa using hi
 ·split at h
  ·rename_i l _ xs eS
   cases h
   obtain ⟨a,rfl,h1⟩:=rp
   obtain ⟨vs0,h2,h3⟩:=rs.obj _ a _ h1 eS
   refine .inl ⟨a,rfl,⟨vs0,.of h2⟩,k _ fun i ι2 H2 S2 e r2 ok => ?_⟩
   have hS2:S2[l]? = some (.lst xs):=ok (l,.lst xs) (by simp)
   obtain ⟨vs,h4,h5⟩:=r2.obj l a _ (e.pre l a h1) hS2
   refine ⟨fun hi => ?_,fun hi => ?_⟩
   ·have hi:i < xs.length:=hi
    obtain ⟨p,hp⟩:=get_len hi
    obtain ⟨v,hv,rv⟩:=h5.get hp
    exact ⟨⟨vs,v,.of h4,hv⟩,fun x H3 hy => by
     obtain ⟨rfl,hf⟩:=hy
     have e1:=hf vs (.of h4)
     rw [hv] at e1; cases e1
     exact ⟨p,hp,.refl,r2,rv⟩⟩
   ·exact ⟨vs,.of h4,by rw [← h5.length]; exact hi⟩
  ·cases h
 ·cases h
theorem ri_seq (h:RE X W iter ma):RI X W tg iter (seqM ma):=⟨pi_weak (pi_any h.pe) fun σ H R hh => by
 obtain ⟨ι,τ,S,r,ρ,pk⟩:=hh
 refine ⟨ι,τ,S,r,ρ,pk.next.mono fun x H1 ⟨p,ι1,S1,e1,r1,q1,pk1⟩ => ?_⟩
 cases ht:itrP p S1 with
 | none => rw [ht] at pk1; exact pk1.elim
 | some t =>
  rw [ht] at pk1
  exact itr_ok r1 q1 ht fun J hJ => pk1 ι1 H1 J .refl r1 hJ⟩
def rngI (lo hi:Int):List PV:=(List.range (hi - lo).toNat).map fun (i:Nat) => PV.int (lo + (i:Int))
theorem rngI_len (lo hi:Int):(rngI lo hi).length = (hi - lo).toNat:=by unfold rngI; simp
def rngOk (i:Int):Prop:=-4611686018427387904 ≤ i∧i < 4611686018427387904
noncomputable instance (i:Int):Decidable (rngOk i):=Classical.propDecidable _
noncomputable def rng1M (m:EM PV):EM Wk:=fun τ S => bnd (m τ S) fun p S1 => match p with | .int n => if rngOk n then .ok ⟨rngI 0 n,[]⟩ S1 else .bad | _ => .bad
theorem rng_ok {ι : List Addr} {H:Hp} {lo hi:Int}:ItOk X ι H ⟨rngI lo hi,[]⟩ (L2.Itr lo (hi - lo).toNat):=fun i ι2 H2 S2 e r2 _ => by
 rw [show ({ items:=rngI lo hi,g:=[] }:Wk).items.length = (hi - lo).toNat from rngI_len lo hi]
 refine ⟨fun hi' => ⟨hi',fun x H3 hy => ?_⟩,fun h => h⟩
 obtain ⟨rfl,rfl⟩:=hy
 refine ⟨.int (lo + i),?_,.refl,r2,rfl⟩
 show (rngI lo hi)[i]? = _
 unfold rngI
 rw [List.getElem?_map,List.getElem?_range hi']; rfl
theorem ri_range1 {p:Pos} (hg:Gl X "range") (hm:X.mg "range" = none) (ha:RE X W a ma) (hs:starEach [a] X.env = [(false,eval a X.env)]:=by rfl):RI X W tg (.Call (.Name "range" p) [a] [] pos) (rng1M ma) :=
 ⟨pi_weak (pi_range1 hg hm (pa_cons ha.pe pa_nil hs) hs) fun σ H R hh => by
  obtain ⟨ι,τ,S,r,ρ,pk⟩:=hh
  refine ⟨ι,τ,S,r,ρ,pk.next.mono fun x H1 ⟨p,ι1,S1,e1,r1,q1,pk1⟩ => ?_⟩
  cases p with
  | int n =>
   simp only at pk1
   split at pk1
   ·rename_i hn
    obtain ⟨h1,h2⟩:=hn
    cases (show x = _ from q1)
    refine ⟨n,rfl,by omega,by omega,pk1 ι1 H1 _ .refl r1 ?_⟩
    have:=@rng_ok X ι1 H1 0 n
    rw [Int.sub_zero] at this
    exact this
   ·exact pk1.elim
  | _ => exact pk1.elim⟩
open Classical in
noncomputable def forL (t:Wk) (g:GM) (b:SM):List PV→SM
 | [] => fun τ S => if t.ok S then .nx τ S else .bad
 | p :: r => fun τ S => if t.ok S then (match g p τ with | some τ1 => seqO (b τ1 S) (forL t g b r) | none => .bad) else .bad
noncomputable def forS (m:EM Wk) (g:GM) (b:SM):SM:=fun τ S => bndS (m τ S) τ fun t S1 => forL t g b t.items τ S1
theorem drop_of_get {α : Type} {xs:List α} {i:Nat} {x : α} (h:xs[i]? = some x):xs.drop i = x :: xs.drop (i + 1):=by
 obtain ⟨hl,e⟩:=List.getElem?_eq_some_iff.mp h
 rw [List.drop_eq_getElem_cons hl,e]
theorem rs_for {m:EM Wk} {g:GM} {sl:List Nat} {b:SM} {body:List Stmt} (hp:PassesOwn (model X.prog X.w) X.A X.env X.xe) (hc:X.calm = true) (hi:RI X W tg iter m) (hg:RG X tg g sl) (hb:RSs X W body b)
  (hs:∀ x,foldedSetIterable iter X.env x = pure x:=by intro _; rfl):RS X W (.For tg iter body [] pos) (forS m g b):=by
 refine ⟨ps_weak (ps_for hp hc hi.pi hg.pg hb.pss hs) fun D σ H ⟨ι,τ,S,r,ρ,pk⟩ => ⟨ι,τ,S,r,ρ,(PkS.next (R:=ItOk X) ρ pk).mono ?_⟩⟩
 rintro J H1 ⟨t,ι1,S1,e1,r1,q1,pk1⟩
 refine ⟨fun i n σ H => ∃ ι τ S,Ext ι1 H1 ι H∧RSt X.prog X.w X.K X.mg ι H S∧REn X.K ι H τ σ∧n = t.items.length - i∧i ≤ t.items.length∧PkS X W D ι H (forL t g b (t.items.drop i) τ S),
  ⟨t.items.length,ι1,τ,S1,.refl,r1,ρ.up e1,by simp,Nat.zero_le _,by rw [List.drop_zero]; exact pk1⟩,?_⟩
 rintro i n σ2 H2 ⟨ι2,τ2,S2,e2,r2,ρ2,hn,hle,pk2⟩
 by_cases hlt:i < t.items.length
 ·obtain ⟨p,hp⟩:=get_len hlt
  rw [drop_of_get hp] at pk2
  unfold forL at pk2
  split at pk2
  ·rename_i ok
   obtain ⟨go,step⟩:=(q1 i ι2 H2 S2 e2.w r2 ok).1 hlt
   cases hgp:g p τ2 with
   | none => rw [hgp] at pk2; exact pk2.elim
   | some τ3 =>
    rw [hgp] at pk2
    unfold PkS at pk2
    rw [wpS_seqO] at pk2
    refine .inr ⟨go,fun σ' H' => ∃ ι τ S,Ext ι1 H1 ι H'∧RSt X.prog X.w X.K X.mg ι H' S∧REn X.K ι H' τ σ'∧PkS X W D ι H' (forL t g b (t.items.drop (i + 1)) τ S),fun σ' H' ⟨ι',τ',S',e',r',ρ',pk'⟩ => ⟨n - 1,by omega,ι',τ',S',e',r',ρ',by omega,by omega,pk'⟩,fun x H3 hy => ?_⟩
    obtain ⟨p',hp',E3,r3,rv3⟩:=step x H3 hy
    rw [hp] at hp'; cases hp'
    refine ⟨ι2,τ2,S2,p,τ3,r3,ρ2.up E3,rv3,hgp,fun σ3 ρ3 _ => ⟨ι2,τ3,S2,r3,ρ3,?_⟩⟩
    exact wpS_mono pk2 (fun τ' S' w ι' H' σ' e' r' ρ' => ⟨ι',τ',S',e2.trans (E3.trans e'),r',ρ',PkS.up (o:=forL t g b (t.items.drop (i + 1)) τ' S') w (E3.trans e')⟩)
     (fun v S' k ι' H' x e' => k ι' H' x (E3.trans e')) fun c p τ S k ι' H' σ' Ca d x e' => k ι' H' σ' Ca d x (E3.trans e')
  ·exact pk2.elim
 ·have hi':i = t.items.length:=by omega
  rw [hi',List.drop_length] at pk2
  unfold forL at pk2
  split at pk2
  ·rename_i ok
   exact .inl ⟨(q1 i ι2 H2 S2 e2.w r2 ok).2 (by omega),pk2 ι2 H2 σ2 .refl r2 ρ2⟩
  ·exact pk2.elim
def whileN (c:EM Bool) (b:SM):Nat→SM
 | 0 => fun _ _ => .bad
 | n + 1 => fun τ S => bndS (c τ S) τ fun k S1 => if k = true then seqO (b τ S1) (whileN c b n) else .nx τ S1
open Classical in
noncomputable def whileS (c:EM Bool) (b:SM):SM:=fun τ S => if h:∃ n,whileN c b n τ S ≠ .bad then whileN c b (choose h) τ S else .bad
theorem rs_while {b:SM} {body:List Stmt} (hp:PassesOwn (model X.prog X.w) X.A X.env X.xe) (hc:RT X W c tA) (hb:RSs X W body b):RS X W (.While c body [] pos) (whileS tA b):=by
 refine ⟨ps_weak (ps_while hp hc.pt hb.pss) fun D σ H ⟨ι,τ,S,r,ρ,pk⟩ => ?_⟩
 have hN:∃ n,PkS X W D ι H (whileN tA b n τ S):=by
  unfold whileS at pk
  split at pk
  ·exact ⟨_,pk⟩
  ·exact pk.elim
 refine ⟨fun n σ H => ∃ ι τ S,RSt X.prog X.w X.K X.mg ι H S∧REn X.K ι H τ σ∧PkS X W D ι H (whileN tA b n τ S),(let ⟨n,h⟩:=hN; ⟨n,ι,τ,S,r,ρ,h⟩),?_⟩
 rintro n σ1 H1 ⟨ι1,τ1,S1,r1,ρ1,pk1⟩
 cases n with
 | zero => exact pk1.elim
 | succ n =>
  refine ⟨ι1,τ1,S1,r1,ρ1,(PkS.next (R:=rB) ρ1 pk1).mono ?_⟩
  rintro k H2 ⟨k',ι2,S2,e2,r2,q2,pk2⟩
  have q2:k' = k:=q2
  subst q2
  cases k' with
  | false => exact pk2 ι2 H2 σ1 .refl r2 (ρ1.up e2)
  | true =>
   rw [if_pos rfl] at pk2 ⊢
   unfold PkS at pk2
   rw [wpS_seqO] at pk2
   refine ⟨fun σ' H' => ∃ ι τ S,RSt X.prog X.w X.K X.mg ι H' S∧REn X.K ι H' τ σ'∧PkS X W D ι H' (whileN tA b n τ S),fun σ' H' h => ⟨n,Nat.lt_succ_self n,h⟩,ι2,τ1,S2,r2,ρ1.up e2,?_⟩
   exact wpS_mono pk2 (fun τ' S' w ι' H' σ' e' r' ρ' => ⟨ι',τ',S',r',ρ',PkS.up (o:=whileN tA b n τ' S') w e'⟩) (fun _ _ k => k) fun _ _ _ _ k => k
def wipeE (τ : En):List Nat→En
 | [] => τ
 | v :: vs => (wipeE τ vs).set v none
theorem REn.wipe {K:PySem.W.Frag} {ι : List Addr} {H:Hp} {τ : En} {σ : L2.St} (h:REn K ι H τ σ):∀ vs,REn K ι H (wipeE τ vs) (wipe σ vs)
 | [] => h
 | v :: vs => (REn.wipe h vs).unset v
structure RTs (X:Cx) (W:WX) (ifs:List Expr) (m:EM Bool):Prop where
 pts:PTs X ifs (gE X W rB m)
def yesM:EM Bool:=fun _ S => .ok true S
theorem pts_weak {ifs:List Expr} {t t':TT} (h:PTs X ifs t) (w:∀ σ H Q,t' σ H Q→t σ H Q):PTs X ifs t':=⟨fun pins s σ H Q I hh => h.run pins s σ H Q I (w σ H Q hh)⟩
theorem rts_nil:RTs X W [] yesM:=⟨pts_weak pts_nil fun σ H Q ⟨ι,τ,S,r,ρ,pk⟩ => pk ι H true .refl r rfl⟩
theorem rts_one (h:RT X W c tA):RTs X W [c] tA:=⟨pts_one h.pt⟩
abbrev W0:WX:=fun _ _ _ _ => False
def noEr {α : Type} (o:Out α):Out α:=match o with
 | .ok a S => .ok a S
 | _ => .bad
@[simp] theorem noEr_ok {α : Type} (a : α) (S:Sto):noEr (.ok a S) = .ok a S:=rfl
@[simp] theorem noEr_bad {α : Type}:noEr (.bad:Out α) = .bad:=rfl
@[simp] theorem noEr_er {α : Type} (c:Str) (p:PV) (S:Sto):noEr (.er c p S:Out α) = .bad:=rfl
theorem wipe_wipe {σ : L2.St}:∀ vs:List Nat,wipe (wipe σ vs) vs = wipe σ vs:=by
 have set_wipe:∀ (ws:List Nat) (σ : L2.St) (i:Nat),wipe (σ.set i none) ws = (wipe σ ws).set i none:=by
  intro ws
  induction ws with
  | nil => intro σ i; rfl
  | cons w ws ih =>
   intro σ i
   unfold wipe
   rw [ih]
   by_cases e:i = w
   ·subst e; rfl
   ·rw [List.set_comm _ _ e]
 intro vs
 induction vs with
 | nil => rfl
 | cons v vs ih =>
  show (wipe ((wipe σ vs).set v none) vs).set v none = _
  rw [set_wipe,ih,List.set_set]
  rfl
def stepE (tt:EM Bool) (el:EM PV):List PV→En→Sto→Out (List PV):=fun acc τ S => bnd (noEr (tt τ S)) fun k S1 =>
 if k = true then bnd (noEr (el τ S1)) fun y S2 => if acc.length < 16777216 then .ok (acc ++ [y]) S2 else .bad else .ok acc S1
open Classical in
noncomputable def accL (t:Wk) (g:GM) (step:List PV→En→Sto→Out (List PV)):List PV→List PV→En→Sto→Out (List PV)
 | acc,[] => fun _ S => if t.ok S then .ok acc S else .bad
 | acc,p :: r => fun τ S => if t.ok S then (match g p τ with | some τ1 => bnd (step acc τ1 S) fun acc' S1 => accL t g step acc' r τ S1 | none => .bad) else .bad
open Classical in
theorem accL_cons (t:Wk) (g:GM) (step:List PV→En→Sto→Out (List PV)) (acc:List PV) (p:PV) (r:List PV) (τ : En) (S:Sto):accL t g step acc (p :: r) τ S =
  if t.ok S then (match g p τ with | some τ1 => bnd (step acc τ1 S) fun acc' S1 => accL t g step acc' r τ S1 | none => .bad) else .bad:=rfl
open Classical in
theorem accL_nil (t:Wk) (g:GM) (step:List PV→En→Sto→Out (List PV)) (acc:List PV) (τ : En) (S:Sto):accL t g step acc [] τ S = if t.ok S then .ok acc S else .bad:=rfl
def newL (o:Out (List PV)):Out PV:=bnd o fun acc S => .ok (.loc S.length) (S ++ [.lst acc])
noncomputable def compM (m:EM Wk) (g:GM) (tt:EM Bool) (el:EM PV) (vs:List Nat):EM PV:=fun τ S => bnd (m τ S) fun t S1 => newL (accL t g (stepE tt el) [] t.items (wipeE τ vs) S1)
structure Dl (K:PySem.W.Frag) (ι : List Addr) (H:Hp) (D:Addr) (acc:List PV):Prop where
 nin:D ∉ ι
 obj:∃ vs,H D = some (.lst vs)∧RpL K ι H acc vs
theorem Dl.up {ι ι':List Addr} {H H':Hp} {D:Addr} {acc:List PV} (d:Dl X.K ι H D acc) (e:Ext ι H ι' H'):Dl X.K ι' H' D acc:=by
 obtain ⟨vs,h1,h2⟩:=d.obj
 refine ⟨fun hm => ?_,vs,e.fr D _ h1 d.nin,h2.up e⟩
 rcases e.new D hm with q | q
 ·exact d.nin q
 ·rw [h1] at q; cases q
theorem extW_upd {ι : List Addr} {H:Hp} {vs ws:List V} (h:H D = some (.lst vs)):ExtW ι H ι (upd H D (.lst ws)) :=
 ⟨fun _ _ h => h,fun a xs e => by rw [upd_ne (fun z => by subst z; rw [h] at e; cases e)]; exact e,fun a o u e => by rw [upd_ne (fun z => by subst z; rw [h] at e; cases e)]; exact e⟩
theorem Dl.write {ι1 ι : List Addr} {H1 H:Hp} {S:Sto} {D:Addr} {vs ws:List V} {acc:List PV} (hD:H1 D = none) (e:Ext ι1 H1 ι H) (r:RSt X.prog X.w X.K X.mg ι H S) (nin:D ∉ ι) (h:H D = some (.lst vs)) (h2:RpL X.K ι H acc ws) :
  Ext ι1 H1 ι (upd H D (.lst ws))∧RSt X.prog X.w X.K X.mg ι (upd H D (.lst ws)) S∧Dl X.K ι (upd H D (.lst ws)) D acc∧ExtW ι H ι (upd H D (.lst ws)):=by
 have eb:ExtW ι H ι (upd H D (.lst ws)):=extW_upd h
 refine ⟨⟨e.pre,fun a o q n => ?_,e.new,fun a xs q => ?_,fun a o u q => ?_⟩,⟨r.len,r.nd,fun l a o e1 e2 => ?_⟩,⟨nin,ws,upd_same,RpL.upW eb _ _ h2⟩,eb⟩
 ·rw [upd_ne (ne_of_none q hD)]; exact e.fr a o q n
 ·rw [upd_ne (ne_of_none q hD)]; exact e.tups a xs q
 ·rw [upd_ne (ne_of_none q hD)]; exact e.frzs a o u q
 ·have hne:a ≠ D:=fun z => nin (z ▸ List.mem_of_getElem? e1)
  have ho:=r.obj l a o e1 e2
  have k:upd H D (.lst ws) a = H a:=upd_ne hne
  cases o with
  | lst xs => obtain ⟨vs,q,r⟩:=ho; exact ⟨vs,k.trans q,RpL.upW eb _ _ r⟩
  | dct xs => obtain ⟨vs,q,r⟩:=ho; exact ⟨vs,k.trans q,RpF.upW eb r⟩
  | ins C fs => obtain ⟨Ca,dx,ws,m,q,r⟩:=ho; exact ⟨Ca,dx,ws,m,k.trans q,RpF.upW eb r⟩
  | dtp xs => obtain ⟨vs,q,z,r⟩:=ho; exact ⟨vs,k.trans q,fun x hx => (z x hx).upW eb,RpF.upW eb r⟩
  | tab nm q => exact ⟨TabZ.to ho.1 k eb.frzs,ho.2⟩
  | exc C p => obtain ⟨oe,Ca,dd,x,q,m,c1,c2,c3,nd,hd,r⟩:=ho; exact ⟨oe,Ca,dd,x,k.trans q,m,c1,c2,c3,nd,(upd_ne fun z => by rw [z,h] at hd; cases hd).trans hd,Rp.upW eb _ _ r⟩
  | ndt xs => obtain ⟨vs,q,z,r⟩:=ho; exact ⟨vs,k.trans q,fun x hx => ⟨(z x hx).1,(z x hx).2.mono eb.frzs⟩,RpF.upW eb r⟩
theorem Dl.adopt {ι1 ι : List Addr} {H1 H:Hp} {S:Sto} {D:Addr} {acc:List PV} (hD:H1 D = none) (e:Ext ι1 H1 ι H) (r:RSt X.prog X.w X.K X.mg ι H S) (d:Dl X.K ι H D acc) :
  Ext ι1 H1 (ι ++ [D]) H∧RSt X.prog X.w X.K X.mg (ι ++ [D]) H (S ++ [.lst acc])∧Rp X.K (ι ++ [D]) H (.loc S.length) (.ref D):=by
 have pre:∀ (l:Nat) (a:Addr),ι[l]? = some a→(ι ++ [D])[l]? = some a:=fun l a h => by
  rw [List.getElem?_append_left (List.getElem?_eq_some_iff.mp h).1]; exact h
 have eb:ExtW ι H (ι ++ [D]) H:=⟨pre,fun _ _ h => h,fun _ _ _ h => h⟩
 obtain ⟨vs,h1,h2⟩:=d.obj
 refine ⟨⟨fun l a h => pre l a (e.pre l a h),e.fr,fun a m => ?_,e.tups,e.frzs⟩,⟨by simp [r.len],List.nodup_append.mpr ⟨r.nd,by simp,fun x hx y hy => by simp at hy; subst hy; exact fun z => d.nin (z ▸ hx)⟩,fun l' a' o' e1 e2 => ?_⟩,D,rfl,by rw [← r.len]; simp⟩
 ·rcases List.mem_append.mp m with q | q
  ·exact e.new a q
  ·have:a = D:=by simpa using q
   subst this; exact .inr hD
 ·by_cases hl:l' < ι.length
  ·rw [List.getElem?_append_left hl] at e1
   rw [List.getElem?_append_left (by rw [← r.len]; exact hl)] at e2
   have ho:=r.obj l' a' o' e1 e2
   cases o' with
   | lst xs => obtain ⟨vs,q,r⟩:=ho; exact ⟨vs,q,RpL.upW eb _ _ r⟩
   | dct xs => obtain ⟨vs,q,r⟩:=ho; exact ⟨vs,q,RpF.upW eb r⟩
   | ins C fs => obtain ⟨Ca,dx,ws,m,q,r⟩:=ho; exact ⟨Ca,dx,ws,m,q,RpF.upW eb r⟩
   | dtp xs => obtain ⟨vs,q,z,r⟩:=ho; exact ⟨vs,q,fun x hx => (z x hx).upW eb,RpF.upW eb r⟩
   | tab nm q => exact ⟨TabZ.to ho.1 rfl eb.frzs,ho.2⟩
   | exc C p => obtain ⟨oe,Ca,dd,x,q,m,c1,c2,c3,nd,hd,r⟩:=ho; exact ⟨oe,Ca,dd,x,q,m,c1,c2,c3,(fun z => (List.mem_append.mp z).elim nd fun z => by (have z:dd = D:=by simpa using z); rw [z,h1] at hd; cases hd),hd,Rp.upW eb _ _ r⟩
   | ndt xs => obtain ⟨vs,q,z,r⟩:=ho; exact ⟨vs,q,fun x hx => ⟨(z x hx).1,(z x hx).2.mono eb.frzs⟩,RpF.upW eb r⟩
  ·rw [List.getElem?_append_right (by omega)] at e1
   rw [List.getElem?_append_right (by rw [← r.len]; omega)] at e2
   have h0:l' - ι.length = 0:=by
    have:=(List.getElem?_eq_some_iff.mp e1).1
    simp at this; omega
   have h0':l' - S.length = 0:=by rw [← r.len]; exact h0
   rw [h0] at e1; rw [h0'] at e2
   simp at e1 e2
   subst e1; subst e2
   exact ⟨vs,h1,RpL.upW eb _ _ h2⟩
theorem lc_read {m:EM Wk} {g:GM} {sl:List Nat} {tt:EM Bool} {el:EM PV} {vs:List Nat} (hsl:∀ i ∈ sl,i ∈ vs) (σ : L2.St) (H:Hp) (Q:VK) (h:gE X W (rV X) (compM m g tt el vs) σ H Q) :
  tLc (gE X W (ItOk X) m) (gG X g sl) (gE X W0 rB tt) (gE X W0 (rV X) el) vs σ H Q:=by
 obtain ⟨ι,τ,S,r,ρ,pk⟩:=h
 refine ⟨ι,τ,S,r,ρ,pk.next.mono ?_⟩
 rintro J H1 ⟨t,ι1,S1,e1,r1,q1,pk1⟩
 intro D hD
 have ρ1:=(ρ.up e1).wipe vs
 obtain ⟨E0,r0⟩:=r1.tup (ho:=.lst []) hD
 have nD:D ∉ ι1:=fun hm => by
  obtain ⟨l0,o0,_,_,h3⟩:=r1.mem hm
  exact h3.mut.2.1 hD
 refine ⟨fun i n H => ∃ ι S acc,Ext ι1 H1 ι H∧RSt X.prog X.w X.K X.mg ι H S∧REn X.K ι H (wipeE τ vs) (wipe σ vs)∧Dl X.K ι H D acc∧n = t.items.length - i∧i ≤ t.items.length ∧
   Pk X W (rV X) σ Q ι1 H1 (newL (accL t g (stepE tt el) acc (t.items.drop i) (wipeE τ vs) S)),
  ⟨t.items.length,ι1,S1,[],E0,r0,ρ1.up E0,⟨nD,[],upd_same,rfl⟩,by simp,Nat.zero_le _,by rw [List.drop_zero]; exact pk1⟩,?_⟩
 rintro i n H2 ⟨ι2,S2,acc,e2,r2,ρ2,d2,hn,hle,pk2⟩
 by_cases hlt:i < t.items.length
 ·obtain ⟨p,hp⟩:=get_len hlt
  rw [drop_of_get hp] at pk2
  unfold accL at pk2
  split at pk2
  ·rename_i ok
   obtain ⟨go,step⟩:=(q1 i ι2 H2 S2 e2.w r2 ok).1 hlt
   cases hgp:g p (wipeE τ vs) with
   | none => rw [hgp] at pk2; exact pk2.elim
   | some τ3 =>
    rw [hgp] at pk2
    refine .inr ⟨go,fun H' => ∃ ι S acc,Ext ι1 H1 ι H'∧RSt X.prog X.w X.K X.mg ι H' S∧REn X.K ι H' (wipeE τ vs) (wipe σ vs)∧Dl X.K ι H' D acc∧Pk X W (rV X) σ Q ι1 H1 (newL (accL t g (stepE tt el) acc (t.items.drop (i + 1)) (wipeE τ vs) S)),
     fun H' ⟨ι',S',acc',e',r',ρ',d',pk'⟩ => ⟨n - 1,by omega,ι',S',acc',e',r',ρ',d',by omega,by omega,pk'⟩,fun x H3 hy => ?_⟩
    obtain ⟨p',hp',E3,r3,rv3⟩:=step x H3 hy
    rw [hp] at hp'; cases hp'
    refine ⟨ι2,wipeE τ vs,S2,p,τ3,r3,ρ2.up E3,rv3,hgp,fun σ3 ρ3 c3 => ⟨c3 vs hsl |>.trans (by rw [wipe_wipe]),ι2,τ3,S2,r3,ρ3,?_⟩⟩
    cases ht:tt τ3 S2 with
    | bad => simp only [stepE,ht,noEr_bad,bnd_bad,newL] at pk2; exact pk2.elim
    | er c p S' => simp only [stepE,ht,noEr_er,bnd_bad,newL] at pk2; exact pk2.elim
    | ok k S4 =>
     show ∀ ι' H' x,Ext ι2 H3 ι' H'→RSt X.prog X.w X.K X.mg ι' H' S4→k = x→_
     rintro ι4 H4 k' E4 r4 rfl
     simp only [stepE,ht,noEr_ok,bnd_ok] at pk2
     cases k with
     | false =>
      rw [if_neg Bool.false_ne_true] at pk2 ⊢
      exact ⟨ι4,S4,acc,(e2.trans E3).trans E4,r4,(ρ2.up E3).up E4,(d2.up E3).up E4,pk2⟩
     | true =>
      rw [if_pos rfl] at pk2 ⊢
      refine ⟨ι4,τ3,S4,r4,ρ3.up E4,?_⟩
      cases hel:el τ3 S4 with
      | bad => simp only [hel,noEr_bad,bnd_bad,newL] at pk2; exact pk2.elim
      | er c p S' => simp only [hel,noEr_er,bnd_bad,newL] at pk2; exact pk2.elim
      | ok y S5 =>
       show ∀ ι' H' x,Ext ι4 H4 ι' H'→RSt X.prog X.w X.K X.mg ι' H' S5→Rp X.K ι' H' y x→_
       intro ι5 H5 yv E5 r5 q5
       simp only [hel,noEr_ok,bnd_ok] at pk2
       split at pk2
       ·rename_i hacc
        have d5:=((d2.up E3).up E4).up E5
        obtain ⟨ws,h1,h2⟩:=d5.obj
        obtain ⟨E6,r6,d6,b6⟩:=Dl.write (acc:=acc ++ [y]) (ws:=ws ++ [yv]) hD (((e2.trans E3).trans E4).trans E5) r5 d5.nin h1 (h2.app (RpL.one q5))
        refine ⟨ws,h1,by rw [← h2.length,sizeLine_eq]; exact hacc,ι5,S5,acc ++ [y],E6,r6,REn.upW b6 (((ρ2.up E3).up E4).up E5),d6,pk2⟩
       ·exact pk2.elim
  ·exact pk2.elim
 ·have hi':i = t.items.length:=by omega
  rw [hi',List.drop_length] at pk2
  unfold accL at pk2
  split at pk2
  ·rename_i ok
   obtain ⟨E,r',q'⟩:=Dl.adopt hD e2 r2 d2
   exact .inl ⟨(q1 i ι2 H2 S2 e2.w r2 ok).2 (by omega),pk2 _ _ _ E r' q'⟩
  ·exact pk2.elim
end
end PL
namespace PL
open PySem PySem.Spec PyProof.Rows L2
section
variable {X:Cx} {W:WX} {a b c e o tg iter:Expr} {es rest:List Expr} {ma mb mc mo:EM PV} {tA tB':EM Bool} {mas:EM (List PV)} {pos apos cpos p2:Pos}
theorem re_lc {elt:Expr} {ifs:List Expr} {scope:Scope} {own:List (Str × Nat)} {m:EM Wk} {g:GM} {sl:List Nat} {tt:EM Bool} {el:EM PV} (hc:X.calm = true) (hN:X.N.Nodup) (hi:RI X W tg iter m) (ok:BlkOk X.N X.env.scope scope own)
  (hg:∀ (s:Shared) (H:Hp) (C:Addr) (cl:List (Str × Addr)) (fp:List Addr),RG (X.blk s H scope (compEnvC scope cl C X.env) fp) tg g sl) (ht:∀ (s:Shared) (H:Hp) (C:Addr) (cl:List (Str × Addr)) (fp:List Addr),RTs (X.blk s H scope (compEnvC scope cl C X.env) fp) W0 ifs tt)
  (he:∀ (s:Shared) (H:Hp) (C:Addr) (cl:List (Str × Addr)) (fp:List Addr),RE (X.blk s H scope (compEnvC scope cl C X.env) fp) W0 elt el) (hsl:∀ i ∈ sl,i ∈ own.map (·.2)) (hs:∀ x,foldedSetIterable iter X.env x = pure x:=by intro _; rfl) :
  RE X W (.ListComp elt [⟨tg,iter,ifs,0⟩] scope pos) (compM m g tt el (own.map (·.2))) :=
 ⟨pe_weak (pe_lc hc hN hi.pi ok (fun s H C cl fp => (hg s H C cl fp).pg) (fun s H C cl fp => (ht s H C cl fp).pts) (fun s H C cl fp => (he s H C cl fp).pe) hs) fun σ H Q h => lc_read hsl σ H Q h⟩
theorem rs_setLc (i:Nat) {y:Str} {py spos:Pos} {elt:Expr} {ifs:List Expr} {scope:Scope} {own:List (Str × Nat)} {m:EM Wk} {g:GM} {sl:List Nat} {tt:EM Bool} {el:EM PV} (hc:X.calm = true) (hN:X.N.Nodup) (hy:X.N[i]? = some y) (hyl:X.env.scope.names.lookup y = some .local)
  (hsw:swapsWith (.ListComp elt [⟨tg,iter,ifs,0⟩] scope pos) (some (.Name y py)) spos.line X.env = pure true) (hi:RI X W tg iter m) (ok:BlkOk X.N X.env.scope scope own)
  (hg:∀ (s:Shared) (H:Hp) (C:Addr) (cl:List (Str × Addr)) (fp:List Addr),RG (X.blk s H scope (compEnvC scope cl C X.env) fp) tg g sl) (ht:∀ (s:Shared) (H:Hp) (C:Addr) (cl:List (Str × Addr)) (fp:List Addr),RTs (X.blk s H scope (compEnvC scope cl C X.env) fp) W0 ifs tt)
  (he:∀ (s:Shared) (H:Hp) (C:Addr) (cl:List (Str × Addr)) (fp:List Addr),RE (X.blk s H scope (compEnvC scope cl C X.env) fp) W0 elt el) (hsl:∀ i ∈ sl,i ∈ own.map (·.2)) (hs:∀ x,foldedSetIterable iter X.env x = pure x:=by intro _; rfl) :
  RS X W (.Assign [.Name y py] (.ListComp elt [⟨tg,iter,ifs,0⟩] scope pos) spos) (asgS (compM m g tt el (own.map (·.2))) (gN i)) :=
 ⟨ps_weak (ps_setLc hc hN hy hyl hsw hi.pi ok (fun s H C cl fp => (hg s H C cl fp).pg) (fun s H C cl fp => (ht s H C cl fp).pts) (fun s H C cl fp => (he s H C cl fp).pe) hs) fun D σ H h => by
  obtain ⟨ι,τ,S,r,ρ,pk⟩:=h
  exact lc_read hsl σ H _ ⟨ι,τ,S,r,ρ,(PkS.next (R:=rV X) ρ pk).mono fun x H1 ⟨p,ι1,S1,e1,r1,q1,pk1⟩ => pk1 ι1 H1 _ .refl r1 ((ρ.up e1).set i q1)⟩⟩
noncomputable def stepI (tt:EM Bool) (m1:EM Wk) (g1:GM) (tt1:EM Bool) (el:EM PV) (vs1:List Nat):List PV→En→Sto→Out (List PV):=fun acc τ S => bnd (noEr (tt τ S)) fun k S1 =>
 if k = true then bnd (noEr (m1 τ S1)) fun t1 S2 => accL t1 g1 (stepE tt1 el) acc t1.items (wipeE τ vs1) S2 else .ok acc S1
noncomputable def comp2M (m:EM Wk) (g:GM) (tt:EM Bool) (m1:EM Wk) (g1:GM) (tt1:EM Bool) (el:EM PV) (vs vs1:List Nat):EM PV:=fun τ S => bnd (m τ S) fun t S1 => newL (accL t g (stepI tt m1 g1 tt1 el vs1) [] t.items (wipeE τ vs) S1)
theorem lc2_read {m m1:EM Wk} {g g1:GM} {sl sl1:List Nat} {tt tt1:EM Bool} {el:EM PV} {vs vs1:List Nat} (hsl:∀ i ∈ sl,i ∈ vs) (hsl1:∀ i ∈ sl1,i ∈ vs1) (σ : L2.St) (H:Hp) (Q:VK) (h:gE X W (rV X) (comp2M m g tt m1 g1 tt1 el vs vs1) σ H Q) :
  tLc2 (gE X W (ItOk X) m) (gG X g sl) (gE X W0 rB tt) (gE X W0 (ItOk X) m1) (gG X g1 sl1) (gE X W0 rB tt1) (gE X W0 (rV X) el) vs vs1 σ H Q:=by
 obtain ⟨ι,τ,S,r,ρ,pk⟩:=h
 refine ⟨ι,τ,S,r,ρ,pk.next.mono ?_⟩
 rintro J H1 ⟨t,ι1,S1,e1,r1,q1,pk1⟩
 intro D hD
 have ρ1:=(ρ.up e1).wipe vs
 obtain ⟨E0,r0⟩:=r1.tup (ho:=.lst []) hD
 have nD:D ∉ ι1:=fun hm => by
  obtain ⟨l0,o0,_,_,h3⟩:=r1.mem hm
  exact h3.mut.2.1 hD
 refine ⟨fun i n H => ∃ ι S acc,Ext ι1 H1 ι H∧RSt X.prog X.w X.K X.mg ι H S∧REn X.K ι H (wipeE τ vs) (wipe σ vs)∧Dl X.K ι H D acc∧n = t.items.length - i∧i ≤ t.items.length ∧
   Pk X W (rV X) σ Q ι1 H1 (newL (accL t g (stepI tt m1 g1 tt1 el vs1) acc (t.items.drop i) (wipeE τ vs) S)),
  ⟨t.items.length,ι1,S1,[],E0,r0,ρ1.up E0,⟨nD,[],upd_same,rfl⟩,by simp,Nat.zero_le _,by rw [List.drop_zero]; exact pk1⟩,?_⟩
 rintro i n H2 ⟨ι2,S2,acc,e2,r2,ρ2,d2,hn,hle,pk2⟩
 by_cases hlt:i < t.items.length
 ·obtain ⟨p,hp⟩:=get_len hlt
  rw [drop_of_get hp] at pk2
  unfold accL at pk2
  split at pk2
  ·rename_i ok
   obtain ⟨go,step⟩:=(q1 i ι2 H2 S2 e2.w r2 ok).1 hlt
   cases hgp:g p (wipeE τ vs) with
   | none => rw [hgp] at pk2; exact pk2.elim
   | some τ3 =>
    rw [hgp] at pk2
    refine .inr ⟨go,fun H' => ∃ ι S acc,Ext ι1 H1 ι H'∧RSt X.prog X.w X.K X.mg ι H' S∧REn X.K ι H' (wipeE τ vs) (wipe σ vs)∧Dl X.K ι H' D acc∧Pk X W (rV X) σ Q ι1 H1 (newL (accL t g (stepI tt m1 g1 tt1 el vs1) acc (t.items.drop (i + 1)) (wipeE τ vs) S)),
     fun H' ⟨ι',S',acc',e',r',ρ',d',pk'⟩ => ⟨n - 1,by omega,ι',S',acc',e',r',ρ',d',by omega,by omega,pk'⟩,fun x H3 hy => ?_⟩
    obtain ⟨p',hp',E3,r3,rv3⟩:=step x H3 hy
    rw [hp] at hp'; cases hp'
    refine ⟨ι2,wipeE τ vs,S2,p,τ3,r3,ρ2.up E3,rv3,hgp,fun σ3 ρ3 c3 => ⟨c3 vs hsl |>.trans (by rw [wipe_wipe]),ι2,τ3,S2,r3,ρ3,?_⟩⟩
    cases ht:tt τ3 S2 with
    | bad => simp only [stepI,ht,noEr_bad,bnd_bad,newL] at pk2; exact pk2.elim
    | er c p S' => simp only [stepI,ht,noEr_er,bnd_bad,newL] at pk2; exact pk2.elim
    | ok k S4 =>
     show ∀ ι' H' x,Ext ι2 H3 ι' H'→RSt X.prog X.w X.K X.mg ι' H' S4→k = x→_
     rintro ι4 H4 k' E4 r4 rfl
     simp only [stepI,ht,noEr_ok,bnd_ok] at pk2
     cases k with
     | false =>
      rw [if_neg Bool.false_ne_true] at pk2 ⊢
      exact ⟨ι4,S4,acc,(e2.trans E3).trans E4,r4,(ρ2.up E3).up E4,(d2.up E3).up E4,pk2⟩
     | true =>
      rw [if_pos rfl] at pk2 ⊢
      refine ⟨ι4,τ3,S4,r4,ρ3.up E4,?_⟩
      cases hm1:m1 τ3 S4 with
      | bad => simp only [hm1,noEr_bad,bnd_bad,newL] at pk2; exact pk2.elim
      | er c p S' => simp only [hm1,noEr_er,bnd_bad,newL] at pk2; exact pk2.elim
      | ok t1 S5 =>
       show ∀ ι' H' x,Ext ι4 H4 ι' H'→RSt X.prog X.w X.K X.mg ι' H' S5→ItOk X ι' H' t1 x→_
       intro ι5 H5 J1 E5 r5 q5
       simp only [hm1,noEr_ok,bnd_ok] at pk2
       have ρ5:=(((ρ3.up E4).up E5)).wipe vs1
       have ρo:=((ρ2.up E3).up E4).up E5
       have d5:=((d2.up E3).up E4).up E5
       have e5:=((e2.trans E3).trans E4).trans E5
       refine ⟨fun j l H => ∃ ι S acc,Ext ι1 H1 ι H∧ExtW ι5 H5 ι H∧RSt X.prog X.w X.K X.mg ι H S∧REn X.K ι H (wipeE τ vs) (wipe σ vs)∧REn X.K ι H (wipeE τ3 vs1) (wipe σ3 vs1)∧Dl X.K ι H D acc∧l = t1.items.length - j∧j ≤ t1.items.length ∧
         Pk X W (rV X) σ Q ι1 H1 (newL (bnd (accL t1 g1 (stepE tt1 el) acc (t1.items.drop j) (wipeE τ3 vs1) S) fun acc' S1 => accL t g (stepI tt m1 g1 tt1 el vs1) acc' (t.items.drop (i + 1)) (wipeE τ vs) S1)),
        ⟨t1.items.length,ι5,S5,acc,e5,.refl,r5,ρo,ρ5,d5,by simp,Nat.zero_le _,by rw [List.drop_zero]; exact pk2⟩,?_⟩
       rintro j l H6 ⟨ι6,S6,acc6,e6,b6,r6,ρo6,ρ6,d6,hl6,hle6,pk6⟩
       by_cases hlt6:j < t1.items.length
       ·obtain ⟨p6,hp6⟩:=get_len hlt6
        rw [drop_of_get hp6,accL_cons] at pk6
        split at pk6
        ·rename_i ok6
         obtain ⟨go6,step6⟩:=(q5 j ι6 H6 S6 b6 r6 ok6).1 hlt6
         cases hgp6:g1 p6 (wipeE τ3 vs1) with
         | none => rw [hgp6] at pk6; exact pk6.elim
         | some τ7 =>
          rw [hgp6] at pk6
          refine .inr ⟨go6,fun H' => ∃ ι S acc,Ext ι1 H1 ι H'∧ExtW ι5 H5 ι H'∧RSt X.prog X.w X.K X.mg ι H' S∧REn X.K ι H' (wipeE τ vs) (wipe σ vs)∧REn X.K ι H' (wipeE τ3 vs1) (wipe σ3 vs1)∧Dl X.K ι H' D acc ∧
            Pk X W (rV X) σ Q ι1 H1 (newL (bnd (accL t1 g1 (stepE tt1 el) acc (t1.items.drop (j + 1)) (wipeE τ3 vs1) S) fun acc' S1 => accL t g (stepI tt m1 g1 tt1 el vs1) acc' (t.items.drop (i + 1)) (wipeE τ vs) S1)),
           fun H' ⟨ι',S',acc',e',b',r',ρo',ρ',d',pk'⟩ => ⟨l - 1,by omega,ι',S',acc',e',b',r',ρo',ρ',d',by omega,by omega,pk'⟩,fun x H7 hy => ?_⟩
          obtain ⟨p',hp',E7,r7,rv7⟩:=step6 x H7 hy
          rw [hp6] at hp'; cases hp'
          refine ⟨ι6,wipeE τ3 vs1,S6,p6,τ7,r7,ρ6.up E7,rv7,hgp6,fun σ7 ρ7 c7 => ⟨c7 vs1 hsl1 |>.trans (by rw [wipe_wipe]),ι6,τ7,S6,r7,ρ7,?_⟩⟩
          cases ht7:tt1 τ7 S6 with
          | bad => simp only [stepE,ht7,noEr_bad,bnd_bad,newL] at pk6; exact pk6.elim
          | er c p S' => simp only [stepE,ht7,noEr_er,bnd_bad,newL] at pk6; exact pk6.elim
          | ok k S8 =>
           show ∀ ι' H' x,Ext ι6 H7 ι' H'→RSt X.prog X.w X.K X.mg ι' H' S8→k = x→_
           rintro ι8 H8 k' E8 r8 rfl
           simp only [stepE,ht7,noEr_ok,bnd_ok] at pk6
           cases k with
           | false =>
            rw [if_neg Bool.false_ne_true] at pk6 ⊢
            exact ⟨ι8,S8,acc6,(e6.trans E7).trans E8,(b6.trans E7.w).trans E8.w,r8,(ρo6.up E7).up E8,(ρ6.up E7).up E8,(d6.up E7).up E8,pk6⟩
           | true =>
            rw [if_pos rfl] at pk6 ⊢
            refine ⟨ι8,τ7,S8,r8,ρ7.up E8,?_⟩
            cases hel:el τ7 S8 with
            | bad => simp only [hel,noEr_bad,bnd_bad,newL] at pk6; exact pk6.elim
            | er c p S' => simp only [hel,noEr_er,bnd_bad,newL] at pk6; exact pk6.elim
            | ok y S9 =>
             show ∀ ι' H' x,Ext ι8 H8 ι' H'→RSt X.prog X.w X.K X.mg ι' H' S9→Rp X.K ι' H' y x→_
             intro ι9 H9 yv E9 r9 q9
             simp only [hel,noEr_ok,bnd_ok] at pk6
             split at pk6
             ·rename_i hacc
              have d9:=((d6.up E7).up E8).up E9
              obtain ⟨ws,h1,h2⟩:=d9.obj
              obtain ⟨E10,r10,d10,b10⟩:=Dl.write (acc:=acc6 ++ [y]) (ws:=ws ++ [yv]) hD (((e6.trans E7).trans E8).trans E9) r9 d9.nin h1 (h2.app (RpL.one q9))
              exact ⟨ws,h1,by rw [← h2.length,sizeLine_eq]; exact hacc,ι9,S9,acc6 ++ [y],E10,(((b6.trans E7.w).trans E8.w).trans E9.w).trans b10,r10,REn.upW b10 (((ρo6.up E7).up E8).up E9),REn.upW b10 (((ρ6.up E7).up E8).up E9),d10,pk6⟩
             ·exact pk6.elim
        ·exact pk6.elim
       ·have hi':j = t1.items.length:=by omega
        rw [hi',List.drop_length,accL_nil] at pk6
        split at pk6
        ·rename_i ok6
         exact .inl ⟨(q5 j ι6 H6 S6 b6 r6 ok6).2 (by omega),ι6,S6,acc6,e6,r6,ρo6,d6,pk6⟩
        ·exact pk6.elim
  ·exact pk2.elim
 ·have hi':i = t.items.length:=by omega
  rw [hi',List.drop_length] at pk2
  unfold accL at pk2
  split at pk2
  ·rename_i ok
   obtain ⟨E,r',q'⟩:=Dl.adopt hD e2 r2 d2
   exact .inl ⟨(q1 i ι2 H2 S2 e2.w r2 ok).2 (by omega),pk2 _ _ _ E r' q'⟩
  ·exact pk2.elim
theorem re_lc2 {elt tg1 iter1:Expr} {ifs ifs1:List Expr} {scope:Scope} {own:List (Str × Nat)} {vs1:List Nat} {m m1:EM Wk} {g g1:GM} {sl sl1:List Nat} {tt tt1:EM Bool} {el:EM PV} (hc:X.calm = true) (hN:X.N.Nodup) (hi:RI X W tg iter m) (ok:BlkOk X.N X.env.scope scope own) (hv:∀ i ∈ vs1,i ∈ own.map (·.2))
  (hg:∀ (s:Shared) (H:Hp) (C:Addr) (cl:List (Str × Addr)) (fp:List Addr),RG (X.blk s H scope (compEnvC scope cl C X.env) fp) tg g sl) (ht:∀ (s:Shared) (H:Hp) (C:Addr) (cl:List (Str × Addr)) (fp:List Addr),RTs (X.blk s H scope (compEnvC scope cl C X.env) fp) W0 ifs tt)
  (hi1:∀ (s:Shared) (H:Hp) (C:Addr) (cl:List (Str × Addr)) (fp:List Addr),RI (X.blk s H scope (compEnvC scope cl C X.env) fp) W0 tg1 iter1 m1)
  (hg1:∀ (s:Shared) (H:Hp) (C:Addr) (cl:List (Str × Addr)) (fp:List Addr),RG (X.blk s H scope (compEnvC scope cl C X.env) fp) tg1 g1 sl1) (ht1:∀ (s:Shared) (H:Hp) (C:Addr) (cl:List (Str × Addr)) (fp:List Addr),RTs (X.blk s H scope (compEnvC scope cl C X.env) fp) W0 ifs1 tt1)
  (he:∀ (s:Shared) (H:Hp) (C:Addr) (cl:List (Str × Addr)) (fp:List Addr),RE (X.blk s H scope (compEnvC scope cl C X.env) fp) W0 elt el) (hsl:∀ i ∈ sl,i ∈ own.map (·.2)) (hsl1:∀ i ∈ sl1,i ∈ vs1) (hs:∀ x,foldedSetIterable iter X.env x = pure x:=by intro _; rfl) (hs1:∀ env x,foldedSetIterable iter1 env x = pure x:=by intro _ _; rfl) :
  RE X W (.ListComp elt [⟨tg,iter,ifs,0⟩,⟨tg1,iter1,ifs1,0⟩] scope pos) (comp2M m g tt m1 g1 tt1 el (own.map (·.2)) vs1) :=
 ⟨pe_weak (pe_lc2 hc hN hi.pi ok hv (fun s H C cl fp => (hg s H C cl fp).pg) (fun s H C cl fp => (ht s H C cl fp).pts) (fun s H C cl fp => (hi1 s H C cl fp).pi) (fun s H C cl fp => (hg1 s H C cl fp).pg) (fun s H C cl fp => (ht1 s H C cl fp).pts) (fun s H C cl fp => (he s H C cl fp).pe) hs hs1)
  fun σ H Q h => lc2_read hsl hsl1 σ H Q h⟩
end
end PL
namespace PL
open PySem PySem.Spec PyProof.Rows L2
section
variable {X:Cx} {W:WX} {a b c e o f tg iter:Expr} {es rest:List Expr} {ma mb mc mo mf:EM PV} {tA tB':EM Bool} {mas:EM (List PV)} {pos apos cpos p2:Pos}
def dictM:EM PV:=fun _ S => .ok (.loc S.length) (S ++ [.dct []])
theorem RSt.new_dct {K:PySem.W.Frag} {mg:Str→Option Value} {ι : List Addr} {H:Hp} {S:Sto} (r:RSt ΩP Ωw K mg ι H S) {p:Addr} (hp:H p = none) {xs:List (Key × PV)} {vs:List (Key × V)} (h:RpF K ι H xs vs):Ext ι H (ι ++ [p]) (upd H p (.dK vs))∧RSt ΩP Ωw K mg (ι ++ [p]) (upd H p (.dK vs)) (S ++ [.dct xs])∧Rp K (ι ++ [p]) (upd H p (.dK vs)) (.loc S.length) (.ref p):=by
 have E:Ext ι H (ι ++ [p]) (upd H p (.dK vs)):=.alloc hp
 exact ⟨E,r.alloc hp (fun _ _ _ _ => trivial) E ⟨vs,upd_same,h.up E⟩,p,rfl,by rw [← r.len]; simp⟩
def isDct (p:PV) (S:Sto):Bool:=match p with
 | .loc l => (match S[l]? with | some (.dct _) => true | _ => false)
 | _ => false
theorem isDct_rp {ι : List Addr} {H:Hp} {S:Sto} {p:PV} {x:V} (rs:RSt X.prog X.w X.K X.mg ι H S) (rp:Rp X.K ι H p x) (h:isDct p S = true):∃ a,x = .ref a∧IsD H a:=by
 unfold isDct at h
 split at h
 ·split at h
  ·rename_i eS
   obtain ⟨a,rfl,h1⟩:=rp
   obtain ⟨vs,h2,h3⟩:=rs.obj _ a _ h1 eS
   exact ⟨a,rfl,.inl ⟨vs,.inl h2⟩⟩
  ·cases h
 ·cases h
def setdefP (d k x:PV) (S:Sto):Option (PV × Sto):=match d with
 | .loc l => match S[l]?,keyP k with
  | some (.dct kvs),some kk => if kvs.length < 16777216 then (match valP kvs kk with | some v => some (v,S) | none => some (x,S.set l (.dct (putP kvs kk x)))) else none
  | _,_ => none
 | _ => none
def m2M (f:PV→PV→PV→Sto→Option (PV × Sto)) (mo ma mb:EM PV):EM PV:=fun τ S => bnd (mo τ S) fun d S1 => if isDct d S1 = true then bnd (ma τ S1) fun k S2 => bnd (mb τ S2) fun x S3 => lift (f d k x S3) else .bad
theorem re_setdef (ho:RE X W o mo) (he:RE X W e ma) (hf:RE X W f mf) (m:M2 X o "setdefault" apos e f cpos):RE X W (.Call (.Attribute o "setdefault" apos) [e,f] [] cpos) (m2M setdefP mo ma mf):=by
 refine ⟨pe_weak (pe_dsetd ho.pe he.pe hf.pe m) fun σ H Q ⟨ι,τ,S,r,ρ,pk⟩ => ⟨ι,τ,S,r,ρ,pk.next.mono fun x H1 ⟨p,ι1,S1,e1,r1,q1,pk1⟩ => ?_⟩⟩
 split at pk1
 ·rename_i hd
  obtain ⟨aD,rfl,hD⟩:=isDct_rp r1 q1 hd
  refine ⟨aD,rfl,hD,ι1,τ,S1,r1,ρ.up e1,pk1.next.mono fun y H2 ⟨k,ι2,S2,e2,r2,q2,pk2⟩ => ⟨ι2,τ,S2,r2,(ρ.up e1).up e2,pk2.next.mono fun z H3 ⟨w,ι3,S3,e3,r3,q3,pk3⟩ => ?_⟩⟩
  obtain ⟨v,S',hf,kk⟩:=pk_lift pk3
  unfold setdefP at hf
  split at hf
  ·split at hf
   ·rename_i l _ _ kvs kx eS ek
    split at hf
    ·rename_i hl
     obtain ⟨a,ea,h1⟩:=(q1.up e2).up e3
     cases ea
     obtain ⟨ws,h2,h3⟩:=r3.obj _ aD _ h1 eS
     cases key_rp (q2.up e3) ek
     obtain ⟨i1,i2⟩:=RpF.val (k:=kx) h3
     refine ⟨ws,kx,h2,rfl,by rw [← h3.length,sizeLine_eq]; exact hl,fun v' hv => ?_,fun hv => ?_⟩
     ·split at hf
      ·rename_i v0 e0
       cases hf
       obtain ⟨v1,e1',e2'⟩:=i1 _ e0
       rw [hv] at e1'; cases e1'
       exact kk _ _ _ .refl r3 e2'
      ·rename_i e0
       rw [i2 e0] at hv; cases hv
     ·split at hf
      ·rename_i v0 e0
       obtain ⟨v1,e1',_⟩:=i1 _ e0
       rw [hv] at e1'; cases e1'
      ·cases hf
       obtain ⟨E,r4⟩:=r3.wdct h1 (h3.put q3)
       exact kk _ _ _ E r4 (q3.up E)
    ·cases hf
   ·cases hf
  ·cases hf
 ·exact pk1.elim
def get2P (d k x:PV) (S:Sto):Option (PV × Sto):=match d with
 | .loc l => match S[l]?,keyP k with | some (.dct kvs),some kk => some ((valP kvs kk).getD x,S) | _,_ => none
 | _ => none
theorem re_get2 (hu:X.A.units + 1 < cLine) (ho:RE X W o mo) (he:RE X W e ma) (hf:RE X W f mf) (m:M2 X o "get" apos e f cpos):RE X W (.Call (.Attribute o "get" apos) [e,f] [] cpos) (m2M get2P mo ma mf):=by
 refine ⟨pe_weak (pe_dget2 hu ho.pe he.pe hf.pe m) fun σ H Q ⟨ι,τ,S,r,ρ,pk⟩ => ⟨ι,τ,S,r,ρ,pk.next.mono fun x H1 ⟨p,ι1,S1,e1,r1,q1,pk1⟩ => ?_⟩⟩
 split at pk1
 ·rename_i hd
  obtain ⟨aD,rfl,hD⟩:=isDct_rp r1 q1 hd
  refine ⟨aD,rfl,hD,ι1,τ,S1,r1,ρ.up e1,pk1.next.mono fun y H2 ⟨k,ι2,S2,e2,r2,q2,pk2⟩ => ⟨ι2,τ,S2,r2,(ρ.up e1).up e2,pk2.next.mono fun z H3 ⟨w,ι3,S3,e3,r3,q3,pk3⟩ => ?_⟩⟩
  obtain ⟨v,S',hf,kk⟩:=pk_lift pk3
  unfold get2P at hf
  split at hf
  ·split at hf
   ·rename_i kvs kx eS ek
    cases hf
    obtain ⟨a,ea,h1⟩:=(q1.up e2).up e3
    cases ea
    obtain ⟨ws,h2,h3⟩:=r3.obj _ aD _ h1 eS
    cases key_rp (q2.up e3) ek
    obtain ⟨i1,i2⟩:=RpF.val (k:=kx) h3
    refine ⟨valV ws kx,DGet.k h2,?_⟩
    cases hv:valP kvs kx with
    | none => rw [i2 hv]; exact kk _ _ _ .refl r3 (by rw [hv]; exact q3)
    | some v0 =>
     obtain ⟨v1,e1',e2'⟩:=i1 _ hv
     rw [e1']
     exact kk _ _ _ .refl r3 (by rw [hv]; exact e2')
   ·cases hf
  ·cases hf
 ·exact pk1.elim
end
end PL
namespace PL
open PySem PySem.Spec PyProof.Rows L2
section
variable {X:Cx} {W:WX} {a b c e o f tg iter:Expr} {es rest:List Expr} {ma mb mc mo mf:EM PV} {tA tB':EM Bool} {mas mks:EM (List PV)} {pos apos cpos p2:Pos} {kws:List Keyword}
structure RK (X:Cx) (W:WX) (kws:List Keyword) (m:EM (List PV)):Prop where
 pk:PK X kws (gE X W (rL X) m)
theorem pk_weak {kws:List Keyword} {t t':TA} (h:PK X kws t) (w:∀ σ H Q,t' σ H Q→t σ H Q):PK X kws t':=⟨fun pos pins s σ H Q I hh => h.run pos pins s σ H Q I (w σ H Q hh)⟩
theorem rk_nil:RK X W [] aN:=⟨pk_weak pk_nil fun σ H Q ⟨ι,τ,S,r,ρ,pk⟩ => pk _ _ _ .refl r rfl⟩
theorem rk_cons {nm:Option Str} {kpos:Pos} (ha:RE X W e ma) (hr:RK X W kws mas):RK X W (⟨nm,e,kpos⟩ :: kws) (aC ma mas):=by
 refine ⟨pk_weak (pk_cons ha.pe hr.pk) fun σ H Q ⟨ι,τ,S,r,ρ,pk⟩ => ⟨ι,τ,S,r,ρ,pk.next.mono fun x H1 ⟨p,ι1,S1,e1,r1,q1,pk1⟩ => ⟨ι1,τ,S1,r1,ρ.up e1,pk1.next.mono fun xs H2 ⟨ps,ι2,S2,e2,r2,q2,pk2⟩ => ?_⟩⟩⟩
 exact pk2 _ _ _ .refl r2 ⟨x,xs,rfl,q1.up e2,q2⟩
end
end PL
namespace PL
open PySem PySem.Spec PyProof.Rows L2
section
variable {prog:Program} {w:World} {A:Around} {R:Result→Shared→Prop} {I:Addr} {fp wr:List Addr} {G:Array GenState→Array GenState→Prop} {n:Nat} {P:Nat→Value→Prop} {St:Nat→Shared→Prop}
end
section
variable {prog:Program} {w:World} {A:Around} {E:Value→Shared→Prop} {s:Shared}
end
def keysP:List PV→Option (List Key)
 | [] => some []
 | x :: r => (keyP x).bind fun k => (keysP r).map fun ks => k :: ks
end PL
namespace PL
open PySem PySem.Spec PyProof.Rows L2
structure DF (K:PySem.W.Frag) (x qual:Str) (st:Stmt) (ps:List Str) where
 a:Addr
 d:FuncData
 F:Fun K x qual st a d
 b:Binds K d ps []
structure DG (K:PySem.W.Frag) (mg:Str→Option Value) (x:Str) (st:Stmt) (ps:List Str) extends DF K x x st ps where
 g:mg x = some (.ref a)
section
variable {P:Program} {w:World} {K:PySem.W.Frag} {mg:Str→Option Value} {base:Heap}
theorem fn_bad {k:Nat} {f:Addr} {fd:FuncData} {ps:List Str} {n:Nat} (hn:n = ps.length:=by rfl):FnOk P w K mg base (L2.CX P w) k f fd ps (spD P w K mg n fun _ _ => .bad) :=
 ⟨fun vs H Q E h => (spD_len vs H Q E h).trans hn,fun A outer s H args us vs Q E hr e0 hb hv ⟨_,_,_,_,_,_,h⟩ => h.elim⟩
theorem re_globI {X:Cx} {W:WX} {pos:Pos} {x:Str} {i:Int} {t:Tok} (hg:Gl X x) (hm:X.mg x = some (.int i t)) (hd:(x == ("__debug__" : Str)) = false:=by decide):RE X W (.Name x pos) (cV (.int i)):=re_glob (w:=.int i) hg hm ⟨_,rfl⟩ (fun _ _ => rfl) hd
theorem re_globS {X:Cx} {W:WX} {pos:Pos} {x:Str} {i:Str} {t:Tok} (hg:Gl X x) (hm:X.mg x = some (.str i t)) (hd:(x == ("__debug__" : Str)) = false:=by decide):RE X W (.Name x pos) (cV (.str i)):=re_glob (w:=.str i) hg hm ⟨_,rfl⟩ (fun _ _ => rfl) hd
theorem hu65_of {A:Around} {k:Nat} (hr:Room k A):A.units + 65 < cLine:=by have:=hr.un; omega
theorem fn_body {x qual:Str} {st:Stmt} {f:Addr} {fd:FuncData} {N ps:List Str} {k n:Nat} {body:SM} (F:Fun K x qual st f fd) (S:FnScope N ps (defScope st)) (hn:ps.length = n)
  (h:∀ (cdv:Value) (A:Around) (outer:List Env) (s:Shared) (H:Hp) (Q:VK) (E:XK),Room k (A.deeper (envOfC qual (defScope st) s.heap.objs.size f cdv)) →
   RSs (cxOf (L2.CX P w) P w K mg base N qual (defScope st) f cdv A outer s H E) (fun cls d _ H => E cls d H) (defBody st) body) :
  FnOk P w K mg base (L2.CX P w) (k + 1) f fd ps (spD P w K mg n (callS N.length body)):=by
 refine F.okX S (fun vs H Q E hh => (spD_len vs H Q E hh).trans hn.symm) fun cdv A outer s H vs Q E hr ⟨ι,Sto,qs,r,rv,l,hw⟩ => ⟨_,(h cdv A outer s H Q E hr).pss,?_⟩
 refine ⟨ι,startE N.length qs,Sto,r,REn.start rv,?_⟩
 unfold callS at hw
 cases hb:body (startE N.length qs) Sto with
 | nx τ S' => rw [hb] at hw; exact fun ι' H' σ' e r' _ => hw ι' H' .non e r' rfl
 | rt v S' => rw [hb] at hw; exact hw
 | er c p τ S' => rw [hb] at hw; exact fun ι' H' σ' Ca d x e r' _ m hd hp => hw ι' H' Ca d x e r' m hd hp
 | bad => rw [hb] at hw; exact hw.elim
def spLaw (K:PySem.W.Frag) (n:Nat):Sp:=fun vs H Q _ => ∃ (a:Addr) (ns:List Int),vs = [.ref a]∧ns.length ≤ n∧Only H∧SqL K H a (ns.map V.int)∧∀ H',Q (.bl true) H'
def LawMain (n:Nat) (F:FM):Prop:=∀ ns:List Int,ns.length ≤ n→wp (F [.fls (ns.map PV.int)] []) (fun v _ => v = .bl true) (fun _ _ _ => False)
theorem spLaw_spD {K:PySem.W.Frag} {mg:Str→Option Value} {n:Nat} {F:FM} (h:LawMain n F) (vs:List V) (H:Hp) (Q:VK) (E:XK) (s:spLaw K n vs H Q E):spD P w K mg 1 F vs H Q E:=by
 obtain ⟨a,ns,rfl,hn,hO,hS,hQ⟩:=s
 refine ⟨[],[],[.fls (ns.map PV.int)],⟨rfl,List.nodup_nil,fun l a o h => by simp at h⟩,⟨_,_,rfl,⟨a,_,rfl,?_,RpL.ints ns⟩,rfl⟩,rfl,wp_mono (h ns hn) (fun v S' e => ?_) (fun _ _ _ z => z.elim)⟩
 ·rcases hS with (hS | hS) | hS
  ·rcases hO a with z | ⟨o,xs,z⟩
   ·rw [z] at hS; cases hS
   ·rw [z] at hS; cases hS
  ·obtain ⟨o,hS⟩:=hS
   exact .inl ⟨o,hS⟩
  ·exact .inr hS
 ·subst e
  intro ι' H' x _ _ r
  have r':x = .bl true:=r
  subst r'
  exact hQ H'
theorem spLaw_end {K:PySem.W.Frag} {n:Nat} {H:Hp} {a:Addr} {ns:List Int} (hn:ns.length ≤ n) (hO:Only H) (hS:SqL K H a (ns.map V.int)):spLaw K n [.ref a] H (fun v _ => v = .bl true) fun _ _ _ => False :=
 ⟨a,ns,rfl,hn,hO,hS,fun _ => rfl⟩
theorem fn_law {P:Program} {w:World} {K:PySem.W.Frag} {mg:Str→Option Value} {base:Heap} {k n:Nat} {f:Addr} {fd:FuncData} {ps:List Str} {F:FM} (h:LawMain n F) (G:FnOk P w K mg base (L2.CX P w) k f fd ps (spD P w K mg 1 F)):FnOk P w K mg base (L2.CX P w) k f fd ps (spLaw K n) :=
 G.imp fun vs H Q E s => spLaw_spD h vs H Q E s
theorem cx_end {P:Program} {w:World} {H:Hp} {s:Shared} {e:Value} {s':Shared} (h:L2.CX P w [] H s (fun _ _ _ => False) e s'):False:=by
 obtain ⟨_,_,_,_,_,_,_,_,_,_,_,_,z⟩:=h
 exact z
theorem Fun.kbindsW {x qual:Str} {st:Stmt} {f:Addr} {fd:FuncData} {ps ks:List Str} {g:List Value→List Value→List Value} {gV:List V→List V→List V} (F:Fun K x qual st f fd)
  (h:∀ (kV doc pm:Value) (an:Option Addr) (cdv ct:Value) (us ws:List Value),(g us ws).length = ps.length→bindArgs (PySem.W.fnOf x qual (defArgs st) (defBody st) (defScope st) .none kV doc pm an cdv ct) ⟨us,ks.zip ws⟩ = pure (ps.zip (g us ws)))
  (hrel:∀ {vs:List V} {us:List Value} {zs:List V} {ws:List Value},Vals vs us→Vals zs ws→Vals (gV vs zs) (g us ws)):KBinds K fd ps ks g gV:=by
 obtain ⟨oc,od,kV,doc,pm,an,cdv,ct,osl,rfl,lk,hcd⟩:=F.ex
 exact ⟨fun s us ws _ hl => .of_eq (h kV doc pm an cdv ct us ws hl),hrel⟩
end
end PL
namespace PL
open PySem PySem.Spec PyProof.Rows L2
structure ExT (K:PySem.W.Frag) (mg:Str→Option Value) (c:Str) (C fI:Addr):Prop where
 g:mg c = some (.ref C)
 o:OexC K C
 ini:PySem.W.findIn K (.ref C) "__init__" = some (some (.ref fI))
 na:PySem.W.findIn K (.ref C) "what" = some none
def spI (K:PySem.W.Frag):Sp:=fun vs H Q _ => ∃ (a C:Addr) (x:V),vs = [.ref a,x]∧OexC K C∧PySem.W.findIn K (.ref C) "what" = some none∧H a = some (exo a C none) ∧
 ∀ dx,H dx = none→dx ≠ a→Q .non (upd (upd H dx (exd dx [("what",x)])) a (exo a C (some dx)))
section
variable {P:Program} {w:World} {K:PySem.W.Frag} {mg:Str→Option Value} {base:Heap}
theorem fn_init {x qual:Str} {st:Stmt} {f:Addr} {fd:FuncData} {p1 p2 p3 p4:Pos} (F:Fun K x qual st f fd) (S:FnScope ["self", "what"] ["self", "what"] (defScope st)) (hb:defBody st = [.Assign [.Attribute (.Name "self" p1) "what" p2] (.Name "what" p3) p4]) {k:Nat} :
  FnOk P w K mg base (L2.CX P w) (k + 1) f fd ["self", "what"] (spI K):=by
 refine F.okX S (fun vs H Q E ⟨a,C,x,e,_⟩ => by rw [e]; rfl) fun cdv A outer s H vs Q E hr ⟨a,C,x,e,T,na,ha,hq⟩ => ?_
 rw [hb]
 subst e
 have v1:Vis (defScope st) "self" := (S.par "self" (by simp)).elim .inl fun h => .inr (.inl h)
 have v2:Vis (defScope st) "what" := (S.par "what" (by simp)).elim .inl fun h => .inr (.inl h)
 refine ⟨_,pss_one (ps_ost (pe_var (i:=0) rfl v1) (pe_var (i:=1) rfl v2)),?_⟩
 exact ⟨x,rfl,.ref a,rfl,a,C,rfl,T,na,.inl ⟨ha,fun dx n ne => hq dx n ne⟩⟩
end
def raiseS (C:Str) (m:EM PV):SM:=fun τ S => bndS (m τ S) τ fun v S1 => .er C v τ S1
section
variable {X:Cx} {W:WX} {e:Expr} {ma:EM PV} {p pos pos':Pos}
theorem del_upd {H:Hp} {a dx:Addr} {o o' u:HO} (ha:H a = none) (hd:H dx = none) (hne:dx ≠ a):upd (del (upd (upd (upd H a o) dx u) a o') a) dx (.xd []) = upd H dx (.xd [])∧∀ x,upd (del (upd (upd (upd H a o) dx u) a o') a) dx x = upd H dx x:=by
 have key:∀ x,upd (del (upd (upd (upd H a o) dx u) a o') a) dx x = upd H dx x:=by
  intro x
  funext b
  by_cases h1:b = dx
  ·subst h1; rw [upd_same,upd_same]
  ·rw [upd_ne h1,upd_ne h1]
   by_cases h2:b = a
   ·subst h2; rw [del_same,ha]
   ·rw [del_ne h2,upd_ne h2,upd_ne h1,upd_ne h2]
 exact ⟨key _,key⟩
theorem rs_raise {c:Str} {C fI:Addr} {fd:FuncData} {k:Nat} (T:ExT X.K X.mg c C fI) (tI:PySem.W.typeIn X.K (.ref fI) = some (.type "function")) (F1:FnOk X.prog X.w X.K X.mg X.base (L2.CX X.prog X.w) k fI fd ["self", "what"] (spI X.K)) (hr:Room (k + 1) X.A)
  (hb:Binds X.K fd ["self", "what"] []) (hg:Gl X c) (hc:X.calm = true) (tk:Takes X W) (ha:RE X W e ma)
  (hdb:(c == ("__debug__" : Str)) = false:=by decide) (he:starEach [e] X.env = (false,eval e X.env) :: starEach [] X.env:=by rfl) (hpl:(backTo pos (starEach [] X.env)).any (·.1) = false:=by rfl) :
  RS X W (.Raise (some (.Call (.Name c p) [e] [] pos)) none pos') (raiseS c ma):=by
 refine ⟨ps_weak (ps_raise hc tk (pmk_oex T.o T.ini tI F1 hr hb (dvs:=[]) .nil passL hg T.g (pa_cons ha.pe pa_nil he) hdb he hpl)) fun D σ H ⟨ι,τ,S,r,ρ,pk⟩ => ?_⟩
 refine ⟨ι,τ,S,r,ρ,(PkS.next (R:=rV X) ρ pk).mono fun x H1 ⟨q,ι1,S1,e1,r1,q1,pk1⟩ => ?_⟩
 refine ⟨by simp,fun a hn => ⟨a,C,x,rfl,T.o,T.na,upd_same,fun dx hdx hne => ?_⟩⟩
 have hd1:H1 dx = none:=by rw [upd_ne hne] at hdx; exact hdx
 refine ⟨rfl,dx,[("what",x)],upd_same,by rw [upd_ne hne,upd_same],hd1,?_⟩
 rw [(del_upd hn hd1 hne).2]
 obtain ⟨E,r2⟩:=r1.tup (ho:=.xd [("what",x)]) hd1
 exact pk1 ι1 _ σ C dx x E r2 ((ρ.up e1).up E) T.g upd_same (q1.up E)
def noErS (o:OS):OS:=match o with
 | .er _ _ _ _ => .bad
 | o => o
def tryS (cs:List (Str × Bool)) (b:SM) (h:Str→PV→SM):SM:=fun τ S => match b τ S with
 | .er c p τ1 S1 => (match cs.lookup c with | some true => noErS (h c p τ1 S1) | some false => .er c p τ1 S1 | none => .bad)
 | o => o
theorem noEr_any {W W':WX} {D:Ends} {ι : List Addr} {H:Hp} {o:OS} (h:PkS X W D ι H (noErS o)):PkS X W' D ι H o:=by
 cases o with
 | nx τ S => exact h
 | rt v S => exact h
 | er c p τ S => exact h.elim
 | bad => exact h
theorem try_read {cs:List (Str × Bool)} {m:SM} {h:Str→PV→SM} {W Wout:WX} {D:Ends} {ι : List Addr} {H:Hp} {τ : En} {S:Sto}
  (hw:∀ c p τ1 S1 ι' H' σ' Ca d x,Ext ι H ι' H'→RSt X.prog X.w X.K X.mg ι' H' S1→REn X.K ι' H' τ1 σ'→X.mg c = some (.ref Ca)→H' d = some (.xd [("what",x)])→Rp X.K ι' H' p x →
   (cs.lookup c = some true→PkS X Wout D ι' H' (noErS (h c p τ1 S1))→W (.ref Ca) (some d) σ' H')∧(cs.lookup c = some false→Wout (.ref Ca) (some d) σ' H'→W (.ref Ca) (some d) σ' H'))
  (pk:PkS X Wout D ι H (tryS cs m h τ S)):PkS X W D ι H (m τ S):=by
 unfold tryS at pk
 cases hm:m τ S with
 | nx τ S => rw [hm] at pk; exact pk
 | rt v S => rw [hm] at pk; exact pk
 | bad => rw [hm] at pk; exact pk
 | er c p τ1 S1 =>
  rw [hm] at pk
  simp only at pk
  intro ι' H' σ' Ca d x e r ρ hm hd hp
  obtain ⟨h1,h2⟩:=hw c p τ1 S1 ι' H' σ' Ca d x e r ρ hm hd hp
  cases hl:cs.lookup c with
  | none => rw [hl] at pk; exact pk.elim
  | some b =>
   rw [hl] at pk
   cases b with
   | true => exact h1 hl (PkS.up pk e)
   | false => exact h2 hl (pk ι' H' σ' Ca d x e r ρ hm hd hp)
abbrev noW:WX:=fun _ _ _ _ => False
theorem rs_tryOnly {x:Str} {c:Value} {body suite:List Stmt} {b₀ : Stmt} {np:Pos} {cs:List (Str × Bool)} {m mh:SM} (hs:X.stack = X.env :: X.outer) (hf:X.env.frame = some X.env.locals) (hc:Names X x c) (tk:Takes X W)
  (hcs:∀ c' b,cs.lookup c' = some b→∀ Ca,X.mg c' = some (.ref Ca)→PySem.W.exmOne X.K (.ref Ca) c = some b)
  (hb:∀ (W:WX) (pn:List (Addr × Obj)) (xe:Value→Shared→Prop),Takes (X.tr pn xe) W→PassesOwn (model X.prog X.w) X.A X.env xe→RSs (X.tr pn xe) W body m)
  (hsu:∀ (a:Addr) (pn:List (Addr × Obj)),RSs (X.suite a pn) noW (b₀ :: suite) mh) :
  RS X W (.Try body [.ExceptHandler (some (.Name x np)) none (b₀ :: suite) pos'] [] [] pos) (tryS cs m fun _ _ => mh):=by
 refine ⟨ps_weak (ps_try_only hs hf hc tk (tb:=fun W => gS X W m) (ts:=fun _ _ _ => gS X noW mh) (fun W pn xe tk po => (hb W pn xe tk po).pss) (fun a oe cls d pn _ _ => (hsu a _).pss)) fun D σ H ⟨ι,τ,S,r,ρ,pk⟩ => ?_⟩
 refine ⟨ι,τ,S,r,ρ,try_read (fun c' p τ1 S1 ι' H' σ' Ca d y e r' ρ' hm hd hp => ⟨fun hl pk' => ⟨true,hcs c' _ hl Ca hm,fun _ a ha => ⟨ι',τ1,S1,r',ρ',noEr_any pk'⟩,fun z => by cases z⟩,fun hl w => ⟨false,hcs c' _ hl Ca hm,fun z => by (cases z),fun _ => w⟩⟩) pk⟩
end
structure FX (X:Cx) (cs:List (Str × Bool)) (a:Addr) (cls:Value) (d:Option Addr) (i:Nat) (ι : List Addr) (H:Hp) (S:Sto) (σ : L2.St) (c:Str) (p:PV) (x:V) (dd Ca:Addr):Prop where
 r:RSt X.prog X.w X.K X.mg ι H S
 at_ : σ[i]? = some (some (.ref a))
 m:X.mg c = some (.ref Ca)
 cl:cls = .ref Ca
 ed:d = some dd
 hd:H dd = some (.xd [("what",x)])
 rp:Rp X.K ι H p x
 lk:cs.lookup c = some true
theorem OR.no_xd {K:PySem.W.Frag} {mg:Str→Option Value} {ι : List Addr} {H:Hp} {a:Addr} {o:Ob} {fs:List (Str × V)} (h:OR ΩP Ωw K mg ι H a o) (e:H a = some (.xd fs)):False:=by
 cases o with
 | lst xs => obtain ⟨vs,q,_⟩:=h; rw [e] at q; cases q
 | dct kvs => obtain ⟨vs,q,_⟩:=h; rw [e] at q; cases q
 | ins C fs => obtain ⟨Ca,dx,ws,_,q,_⟩:=h; rw [e] at q; cases q
 | dtp kvs => obtain ⟨vs,q,_⟩:=h; rw [e] at q; cases q
 | tab nm kvs => obtain ⟨⟨vs,q,_⟩,_⟩:=h; rw [e] at q; cases q
 | exc C p => obtain ⟨_,_,_,_,q,_⟩:=h; rw [e] at q; cases q
 | ndt kvs => obtain ⟨vs,q,_⟩:=h; rw [e] at q; cases q
theorem FX.up {X:Cx} {cs:List (Str × Bool)} {a:Addr} {cls:Value} {d:Option Addr} {i:Nat} {ι ι':List Addr} {H H':Hp} {S:Sto} {σ : L2.St} {c:Str} {p:PV} {x:V} {dd Ca:Addr} (f:FX X cs a cls d i ι H S σ c p x dd Ca)
  (e:Ext ι H ι' H') (r:RSt X.prog X.w X.K X.mg ι' H' S):FX X cs a cls d i ι' H' S σ c p x dd Ca:=by
 have hn:dd ∉ ι:=fun h => by
  obtain ⟨l,o,_,_,ho⟩:=f.r.mem h
  exact ho.no_xd f.hd
 exact ⟨r,f.at_,f.m,f.cl,f.ed,e.fr dd _ f.hd hn,f.rp.up e,f.lk⟩
section
variable {X:Cx} {W:WX} {cs:List (Str × Bool)} {i:Nat} {e:Expr} {es:List Expr} {v:Str→PV→PV} {vs:Str→PV→List PV} {pos:Pos}
theorem REn.len {K:PySem.W.Frag} {ι : List Addr} {H:Hp}:∀ {τ : En} {σ : L2.St},REn K ι H τ σ→τ.length = σ.length
 | [],_,h => by have h:_ = []:=h; subst h; rfl
 | none :: τ,_,h => by
  obtain ⟨r,rfl,q⟩:=h
  simp [REn.len q]
 | some x :: τ,_,h => by
  obtain ⟨v,r,rfl,_,q⟩:=h
  simp [REn.len q]
end
end PL
namespace PL
open PySem PySem.Spec PyProof.Rows L2
theorem cs_nil {P:Str→Bool→Prop}:∀ c b,([]:List (Str × Bool)).lookup c = some b→P c b:=fun c b h => by simp at h
theorem cs_cons {P:Str→Bool→Prop} {c0:Str} {b0:Bool} {cs:List (Str × Bool)} (h:P c0 b0) (ht:∀ c b,cs.lookup c = some b→P c b):∀ c b,((c0,b0) :: cs).lookup c = some b→P c b:=by
 intro c b hl
 rw [List.lookup_cons] at hl
 split at hl
 ·rename_i e
  have e':c = c0:=by simpa using e
  cases hl
  subst e'
  exact h
 ·exact ht c b hl
theorem ex_of {mg:Str→Option Value} {c:Str} {C:Addr} {Q:Addr→Prop} (g:mg c = some (.ref C)) (h:Q C):∀ Ca,mg c = some (.ref Ca)→Q Ca:=fun Ca e => by
 rw [g] at e
 cases e
 exact h
end PL
namespace PL
open PySem PySem.Spec PyProof.Rows L2
def pairP:PV→Option (Key × PV)
 | .tup [k,v] => (keyP k).map fun kk => (kk,v)
 | _ => none
def pairsP:List PV→Option (List (Key × PV))
 | [] => some []
 | x :: xs => (pairP x).bind fun p => (pairsP xs).map fun ps => p :: ps
def mergeP (kvs more:List (Key × PV)):List (Key × PV):=more.foldl (fun acc kv => putP acc kv.1 kv.2) kvs
def dictLP (p:PV) (S:Sto):Option (PV × Sto):=match p with
 | .loc l => match S[l]? with
  | some (.lst xs) => (pairsP xs).map fun kvs => (.loc S.length,S ++ [.dct (mergeP [] kvs)])
  | _ => none
 | _ => none
theorem keyP_rp {K:PySem.W.Frag} {ι : List Addr} {H:Hp} {k:PV} {kk:Key} {v:V} (h:keyP k = some kk) (r:Rp K ι H k v):v = kV kk:=by
 cases k with
 | int i => cases h; exact r
 | str x => cases h; exact r
 | _ => cases h
theorem pairs_rp {K:PySem.W.Frag} {ι : List Addr} {H:Hp}:∀ {xs:List PV} {kvs:List (Key × PV)} {vs:List V},pairsP xs = some kvs→RpL K ι H xs vs →
  ∃ (ps:List Addr) (ws:List (Key × V)),vs = ps.map V.ref∧Paired (fun p kv => SqT K H p [kV kv.1,kv.2]) ps ws∧RpF K ι H kvs ws
 | [],kvs,vs,h,r => by cases h; cases (show vs = [] from r); exact ⟨[],[],rfl,.nil,rfl⟩
 | x :: xs,kvs,vs,h,r => by
  obtain ⟨v,rs,rfl,r1,r2⟩:=r
  simp only [pairsP,Option.bind_eq_some_iff,Option.map_eq_some_iff] at h
  obtain ⟨p,hp,ps,hps,rfl⟩:=h
  obtain ⟨as,ws,rfl,h2,h3⟩:=pairs_rp hps r2
  unfold pairP at hp
  split at hp
  ·rename_i k y
   simp only [Option.map_eq_some_iff] at hp
   obtain ⟨kk,hk,rfl⟩:=hp
   obtain ⟨a,us,rfl,q1,q2⟩:=r1
   obtain ⟨u1,us1,rfl,q3,q4⟩:=q2
   obtain ⟨u2,us2,rfl,q5,q6⟩:=q4
   cases (show us2 = [] from q6)
   have:=keyP_rp hk q3
   subst this
   exact ⟨a :: as,(kk,u2) :: ws,rfl,.cons q1.seq h2,u2,ws,rfl,q5,h3⟩
  ·cases hp
theorem RpF.merge {K:PySem.W.Frag} {ι : List Addr} {H:Hp}:∀ {more:List (Key × PV)} {ws:List (Key × V)} {kvs:List (Key × PV)} {vs:List (Key × V)},RpF K ι H more ws→RpF K ι H kvs vs→RpF K ι H (mergeP kvs more) (mergeK vs ws)
 | [],ws,kvs,vs,h,q => by cases (show ws = [] from h); exact q
 | (k,x) :: more,ws,kvs,vs,h,q => by
  obtain ⟨v,w,rfl,h1,h2⟩:=h
  show RpF K ι H (mergeP (putP kvs k x) more) (mergeK (putK vs k v) w)
  exact RpF.merge h2 (q.put h1)
section
variable {X:Cx} {W:WX} {e:Expr} {ma:EM PV} {pos:Pos}
theorem cr_dictL (hcalm:X.calm = true):CallR X (.type "dict") (gCall X (on1 dictLP)):=cr_on1 fun pins s σ H us Q ι S p x v S' I r rs rp hf k => by
 unfold dictLP at hf
 split at hf
 ·rename_i l
  split at hf
  ·rename_i xs hS
   simp only [Option.map_eq_some_iff,Prod.mk.injEq] at hf
   obtain ⟨kvs,hk,rfl,rfl⟩:=hf
   obtain ⟨a,rfl,h1⟩:=rp
   obtain ⟨vs,h2,h3⟩:=rs.obj _ a _ h1 hS
   obtain ⟨ps,ws,rfl,h4,h5⟩:=pairs_rp hk h3
   refine call_dictP hcalm pins s σ H _ us Q I r ⟨a,ps,ws,rfl,.inl (.inl h2),h4,fun q hq => ?_⟩
   obtain ⟨E,r4,q4⟩:=rs.new_dct hq (RpF.merge h5 (kvs:=[]) (vs:=[]) rfl)
   exact k _ _ _ E r4 q4
  ·cases hf
 ·cases hf
end
end PL
set_option maxHeartbeats 2000000
namespace PL
open PySem PySem.Spec PyProof.Rows L2
theorem RpL.rep {K:PySem.W.Frag} {ι : List Addr} {H:Hp} {xs:List PV} {vs:List V} (h:RpL K ι H xs vs):∀ n:Nat,RpL K ι H (List.replicate n xs).flatten (List.replicate n vs).flatten
 | 0 => rfl
 | n + 1 => by rw [List.replicate_succ,List.replicate_succ,List.flatten_cons,List.flatten_cons]; exact h.app (RpL.rep h n)
end PL
namespace PL
open PySem PySem.Spec PyProof.Rows L2
section
variable {α β : Type}
def wK (f : α→Sto→Out β) (P : β→Sto→Prop) (R:Str→PV→Sto→Prop) : α→Sto→Prop:=fun a S => wp (f a S) P R
def wKS (f : α→Sto→OS) (N:En→Sto→Prop) (T:PV→Sto→Prop) (R:Str→PV→En→Sto→Prop) : α→Sto→Prop:=fun a S => wpS (f a S) N T R
def rK (R:Str→PV→En→Sto→Prop) (τ : En):Str→PV→Sto→Prop:=fun c p S => R c p τ S
def sK (k:SM) (N:En→Sto→Prop) (T:PV→Sto→Prop) (R:Str→PV→En→Sto→Prop):En→Sto→Prop:=fun τ S => wpS (k τ S) N T R
def nonK (P:PV→Sto→Prop):En→Sto→Prop:=fun _ S => P .non S
def dropK (R:Str→PV→Sto→Prop):Str→PV→En→Sto→Prop:=fun c p _ S => R c p S
def noK:Str→PV→Sto→Prop:=fun _ _ _ => False
def newK (P:PV→Sto→Prop):List PV→Sto→Prop:=fun acc S => P (.loc S.length) (S ++ [.lst acc])
@[simp] theorem e_bnd (o:Out α) (f : α→Sto→Out β) (P : β→Sto→Prop) (R:Str→PV→Sto→Prop):wp (bnd o f) P R = wp o (wK f P R) R:=wp_bnd o f P R
@[simp] theorem e_bndS (o:Out α) (τ : En) (f : α→Sto→OS) (N:En→Sto→Prop) (T:PV→Sto→Prop) (R:Str→PV→En→Sto→Prop):wpS (bndS o τ f) N T R = wp o (wKS f N T R) (rK R τ):=wpS_bndS o τ f N T R
@[simp] theorem e_seqO (o:OS) (k:SM) (N:En→Sto→Prop) (T:PV→Sto→Prop) (R:Str→PV→En→Sto→Prop):wpS (seqO o k) N T R = wpS o (sK k N T R) T R:=wpS_seqO o k N T R
@[simp] theorem e_wK (f : α→Sto→Out β) (P : β→Sto→Prop) (R:Str→PV→Sto→Prop) (a : α) (S:Sto):wK f P R a S = wp (f a S) P R:=rfl
@[simp] theorem e_wKS (f : α→Sto→OS) (N:En→Sto→Prop) (T:PV→Sto→Prop) (R:Str→PV→En→Sto→Prop) (a : α) (S:Sto):wKS f N T R a S = wpS (f a S) N T R:=rfl
@[simp] theorem e_rK (R:Str→PV→En→Sto→Prop) (τ : En) (c:Str) (p:PV) (S:Sto):rK R τ c p S = R c p τ S:=rfl
@[simp] theorem e_sK (k:SM) (N:En→Sto→Prop) (T:PV→Sto→Prop) (R:Str→PV→En→Sto→Prop) (τ : En) (S:Sto):sK k N T R τ S = wpS (k τ S) N T R:=rfl
@[simp] theorem e_nonK (P:PV→Sto→Prop) (τ : En) (S:Sto):nonK P τ S = P .non S:=rfl
@[simp] theorem e_dropK (R:Str→PV→Sto→Prop) (c:Str) (p:PV) (τ : En) (S:Sto):dropK R c p τ S = R c p S:=rfl
@[simp] theorem e_noK (c:Str) (p:PV) (S:Sto):noK c p S = False:=rfl
@[simp] theorem zq0 (P:PV→Sto→Prop) (acc:List PV) (S:Sto):newK P acc S = P (.loc S.length) (S ++ [.lst acc]):=rfl
@[simp] theorem e_noEr (o:Out α) (P : α→Sto→Prop) (R:Str→PV→Sto→Prop):wp (noEr o) P R = wp o P noK:=by cases o <;> rfl
@[simp] theorem e_newL (o:Out (List PV)) (P:PV→Sto→Prop) (R:Str→PV→Sto→Prop):wp (newL o) P R = wp o (newK P) R:=by cases o <;> rfl
theorem callS_wp {n:Nat} {b:SM} {ps:List PV} {S:Sto} {P:PV→Sto→Prop} {R:Str→PV→Sto→Prop}:wp (callS n b ps S) P R = wpS (b (startE n ps) S) (nonK P) P (dropK R):=by
 unfold callS
 cases b (startE n ps) S <;> rfl
@[simp] theorem wp_ite {c:Prop} [Decidable c] {a b:Out α} {P : α→Sto→Prop} {R:Str→PV→Sto→Prop}:wp (if c then a else b) P R↔((c→wp a P R)∧(¬ c→wp b P R)):=by
 split <;> simp_all
@[simp] theorem wpS_ite {c:Prop} [Decidable c] {a b:OS} {N:En→Sto→Prop} {T:PV→Sto→Prop} {R:Str→PV→En→Sto→Prop}:wpS (if c then a else b) N T R↔((c→wpS a N T R)∧(¬ c→wpS b N T R)):=by
 split <;> simp_all
def blO:PV→Sto→Out Bool:=fun v S => match v with | .bl b => .ok b S | _ => .bad
def truO:PV→Sto→Out Bool:=fun p S => match truP p S with | some b => .ok b S | none => .bad
def isNO:PV→Sto→Out PV:=fun p S => .ok (.bl (isNon p)) S
def notO:Bool→Sto→Out Bool:=fun k S => .ok (!k) S
def notVO:PV→Sto→Out PV:=fun v S => match v with | .bl k => .ok (.bl (!k)) S | _ => .bad
def oSO:PV→Sto→Out (Option Int):=fun p S => match p with | .int i => .ok (some i) S | _ => .bad
def tupO:List PV→Sto→Out PV:=fun ps S => if ps.length ≤ 16777216 then .ok (.tup ps) S else .bad
def lstO:List PV→Sto→Out PV:=fun ps S => if ps.length ≤ 16777216 then .ok (.loc S.length) (S ++ [.lst ps]) else .bad
def opO (f:Op2) (p:PV):PV→Sto→Out PV:=fun q S => lift (f p q S)
def unO (f:PV→Sto→Option (PV × Sto)):PV→Sto→Out PV:=fun p S => lift (f p S)
def callO (f:OpN):List PV→Sto→Out PV:=fun ps S => lift (f ps S)
def isiO (T:String):PV→Sto→Out PV:=fun p S => match isiP T p S with | some b => .ok (.bl b) S | none => .bad
def seqMO:PV→Sto→Out Wk:=fun p S => match itrP p S with | some t => .ok t S | none => .bad
noncomputable def rng1O:PV→Sto→Out Wk:=fun p S => match p with | .int n => if rngOk n then .ok ⟨rngI 0 n,[]⟩ S else .bad | _ => .bad
def consO (p:PV):List PV→Sto→Out (List PV):=fun ps S => .ok (p :: ps) S
def nxO (τ : En):PV→Sto→OS:=fun _ S => .nx τ S
def rtO:PV→Sto→OS:=fun v S => .rt v S
def asgO (g:GM) (τ : En):PV→Sto→OS:=fun v S => match g v τ with | some τ1 => .nx τ1 S | none => .bad
def setO3 (τ : En) (v o:PV):PV→Sto→OS:=fun i S => match setP o i v S with | some S4 => .nx τ S4 | none => .bad
def bin1 (f:Op2) (b:EM PV) (τ : En):PV→Sto→Out PV:=fun p S => bnd (b τ S) (opO f p)
def ch1 (f f':Op2) (b c:EM PV) (τ : En):PV→Sto→Out PV:=fun p S => bnd (b τ S) fun q S2 => bnd (lift (f p q S2)) fun v S3 =>
 match v with | .bl true => bnd (c τ S3) fun z S4 => lift (f' q z S4) | .bl false => .ok (.bl false) S3 | _ => .bad
def ch2 (f f':Op2) (c:EM PV) (τ : En) (p:PV):PV→Sto→Out PV:=fun q S2 => bnd (lift (f p q S2)) fun v S3 =>
 match v with | .bl true => bnd (c τ S3) fun z S4 => lift (f' q z S4) | .bl false => .ok (.bl false) S3 | _ => .bad
def ch3 (f':Op2) (c:EM PV) (τ : En) (q:PV):PV→Sto→Out PV:=fun v S3 => match v with | .bl true => bnd (c τ S3) fun z S4 => lift (f' q z S4) | .bl false => .ok (.bl false) S3 | _ => .bad
def andO (t:EM Bool) (τ : En):Bool→Sto→Out Bool:=fun k S => if k = true then t τ S else .ok false S
def orO (t:EM Bool) (τ : En):Bool→Sto→Out Bool:=fun k S => if k = true then .ok true S else t τ S
def andVO (t:EM PV) (τ : En):PV→Sto→Out PV:=fun v S => match v with | .bl true => t τ S | .bl false => .ok (.bl false) S | _ => .bad
def orTO (t:EM PV) (τ : En):PV→Sto→Out PV:=fun v S => match truP v S with | some true => .ok v S | some false => t τ S | none => .bad
def ifO {γ : Type} (s t:EM γ) (τ : En):Bool→Sto→Out γ:=fun k S => if k = true then s τ S else t τ S
def aC1 (ms:EM (List PV)) (τ : En):PV→Sto→Out (List PV):=fun p S => bnd (ms τ S) (consO p)
def sl1 (lo hi:EM (Option Int)) (τ : En):PV→Sto→Out PV:=fun p S => bnd (lo τ S) fun l S2 => bnd (hi τ S2) fun h S3 => lift (slP p l h S3)
def sl2 (hi:EM (Option Int)) (τ : En) (p:PV):Option Int→Sto→Out PV:=fun l S => bnd (hi τ S) fun h S3 => lift (slP p l h S3)
def sl3 (p:PV) (l:Option Int):Option Int→Sto→Out PV:=fun h S => lift (slP p l h S)
def mt1 (T:String) (f:OpM) (ms:EM (List PV)) (τ : En):PV→Sto→Out PV:=fun p S1 => if isTy T p S1 = true then bnd (ms τ S1) fun ps S2 => lift (f p ps S2) else .bad
def mt2 (f:OpM) (p:PV):List PV→Sto→Out PV:=fun ps S => lift (f p ps S)
noncomputable def comp1 (g:GM) (tt:EM Bool) (el:EM PV) (vs:List Nat) (τ : En):Wk→Sto→Out PV:=fun t S1 => newL (accL t g (stepE tt el) [] t.items (wipeE τ vs) S1)
noncomputable def comp2a (g:GM) (tt:EM Bool) (m1:EM Wk) (g1:GM) (tt1:EM Bool) (el:EM PV) (vs vs1:List Nat) (τ : En):Wk→Sto→Out PV:=fun t S1 => newL (accL t g (stepI tt m1 g1 tt1 el vs1) [] t.items (wipeE τ vs) S1)
def m2a (f:PV→PV→PV→Sto→Option (PV × Sto)) (ma mb:EM PV) (τ : En):PV→Sto→Out PV:=fun d S1 => if isDct d S1 = true then bnd (ma τ S1) fun k S2 => bnd (mb τ S2) fun x S3 => lift (f d k x S3) else .bad
def m2b (f:PV→PV→PV→Sto→Option (PV × Sto)) (mb:EM PV) (τ : En) (d:PV):PV→Sto→Out PV:=fun k S2 => bnd (mb τ S2) fun x S3 => lift (f d k x S3)
def m2c (f:PV→PV→PV→Sto→Option (PV × Sto)) (d k:PV):PV→Sto→Out PV:=fun x S3 => lift (f d k x S3)
def ifK (s t:SM) (τ : En):Bool→Sto→OS:=fun k S => if k = true then s τ S else t τ S
def setO1 (mo mi:EM PV) (τ : En):PV→Sto→OS:=fun v S1 => bndS (mo τ S1) τ fun o S2 => bndS (mi τ S2) τ fun i S3 => match setP o i v S3 with | some S4 => .nx τ S4 | none => .bad
def setO2 (mi:EM PV) (τ : En) (v:PV):PV→Sto→OS:=fun o S2 => bndS (mi τ S2) τ fun i S3 => match setP o i v S3 with | some S4 => .nx τ S4 | none => .bad
noncomputable def for1 (g:GM) (b:SM) (τ : En):Wk→Sto→OS:=fun t S1 => forL t g b t.items τ S1
def step1 (el:EM PV) (acc:List PV) (τ : En):Bool→Sto→Out (List PV):=fun k S1 => if k = true then bnd (noEr (el τ S1)) fun y S2 => if acc.length < 16777216 then .ok (acc ++ [y]) S2 else .bad else .ok acc S1
def step2 (acc:List PV):PV→Sto→Out (List PV):=fun y S2 => if acc.length < 16777216 then .ok (acc ++ [y]) S2 else .bad
noncomputable def stepI1 (m1:EM Wk) (g1:GM) (tt1:EM Bool) (el:EM PV) (vs1:List Nat) (acc:List PV) (τ : En):Bool→Sto→Out (List PV):=fun k S1 => if k = true then bnd (noEr (m1 τ S1)) fun t1 S2 => accL t1 g1 (stepE tt1 el) acc t1.items (wipeE τ vs1) S2 else .ok acc S1
noncomputable def stepI2 (g1:GM) (tt1:EM Bool) (el:EM PV) (vs1:List Nat) (acc:List PV) (τ : En):Wk→Sto→Out (List PV):=fun t1 S2 => accL t1 g1 (stepE tt1 el) acc t1.items (wipeE τ vs1) S2
@[simp] theorem e_blO (b:Bool) (S:Sto):blO (.bl b) S = .ok b S:=rfl
@[simp] theorem e_truO (p:PV) (S:Sto):truO p S = match truP p S with | some b => .ok b S | none => .bad:=rfl
@[simp] theorem e_isNO (p:PV) (S:Sto):isNO p S = .ok (.bl (isNon p)) S:=rfl
@[simp] theorem e_notO (k:Bool) (S:Sto):notO k S = .ok (!k) S:=rfl
@[simp] theorem e_notVO (k:Bool) (S:Sto):notVO (.bl k) S = .ok (.bl (!k)) S:=rfl
@[simp] theorem e_oSO (i:Int) (S:Sto):oSO (.int i) S = .ok (some i) S:=rfl
@[simp] theorem e_tupO (ps:List PV) (S:Sto):tupO ps S = if ps.length ≤ 16777216 then .ok (.tup ps) S else .bad:=rfl
@[simp] theorem zq2 (ps:List PV) (S:Sto):lstO ps S = if ps.length ≤ 16777216 then .ok (.loc S.length) (S ++ [.lst ps]) else .bad:=rfl
@[simp] theorem e_opO (f:Op2) (p q:PV) (S:Sto):opO f p q S = lift (f p q S):=rfl
@[simp] theorem e_unO (f:PV→Sto→Option (PV × Sto)) (p:PV) (S:Sto):unO f p S = lift (f p S):=rfl
@[simp] theorem e_callO (f:OpN) (ps:List PV) (S:Sto):callO f ps S = lift (f ps S):=rfl
@[simp] theorem e_isiO (T:String) (p:PV) (S:Sto):isiO T p S = match isiP T p S with | some b => .ok (.bl b) S | none => .bad:=rfl
@[simp] theorem e_seqMO (p:PV) (S:Sto):seqMO p S = match itrP p S with | some t => .ok t S | none => .bad:=rfl
@[simp] theorem e_rng1O (n:Int) (S:Sto):rng1O (.int n) S = if rngOk n then .ok ⟨rngI 0 n,[]⟩ S else .bad:=rfl
@[simp] theorem e_consO (p:PV) (ps:List PV) (S:Sto):consO p ps S = .ok (p :: ps) S:=rfl
@[simp] theorem e_nxO (τ : En) (p:PV) (S:Sto):nxO τ p S = .nx τ S:=rfl
@[simp] theorem e_rtO (v:PV) (S:Sto):rtO v S = .rt v S:=rfl
@[simp] theorem e_asgO (g:GM) (τ : En) (v:PV) (S:Sto):asgO g τ v S = match g v τ with | some τ1 => .nx τ1 S | none => .bad:=rfl
@[simp] theorem e_setO3 (τ : En) (v o i:PV) (S:Sto):setO3 τ v o i S = match setP o i v S with | some S4 => .nx τ S4 | none => .bad:=rfl
@[simp] theorem e_bin1 (f:Op2) (b:EM PV) (τ : En) (p:PV) (S:Sto):bin1 f b τ p S = bnd (b τ S) (opO f p):=rfl
@[simp] theorem e_ch1 (f f':Op2) (b c:EM PV) (τ : En) (p:PV) (S:Sto):ch1 f f' b c τ p S = bnd (b τ S) (ch2 f f' c τ p):=rfl
@[simp] theorem e_ch2 (f f':Op2) (c:EM PV) (τ : En) (p q:PV) (S:Sto):ch2 f f' c τ p q S = bnd (lift (f p q S)) (ch3 f' c τ q):=rfl
@[simp] theorem e_ch3 (f':Op2) (c:EM PV) (τ : En) (q:PV) (b:Bool) (S:Sto):ch3 f' c τ q (.bl b) S = if b = true then bnd (c τ S) (opO f' q) else .ok (.bl false) S:=by cases b <;> rfl
@[simp] theorem e_andO (t:EM Bool) (τ : En) (k:Bool) (S:Sto):andO t τ k S = if k = true then t τ S else .ok false S:=rfl
@[simp] theorem e_orO (t:EM Bool) (τ : En) (k:Bool) (S:Sto):orO t τ k S = if k = true then .ok true S else t τ S:=rfl
@[simp] theorem e_andVO (t:EM PV) (τ : En) (k:Bool) (S:Sto):andVO t τ (.bl k) S = if k = true then t τ S else .ok (.bl false) S:=by cases k <;> rfl
@[simp] theorem e_orTO (t:EM PV) (τ : En) (v:PV) (S:Sto):orTO t τ v S = match truP v S with | some true => .ok v S | some false => t τ S | none => .bad:=rfl
@[simp] theorem e_ifO {γ : Type} (s t:EM γ) (τ : En) (k:Bool) (S:Sto):ifO s t τ k S = if k = true then s τ S else t τ S:=rfl
@[simp] theorem e_aC1 (ms:EM (List PV)) (τ : En) (p:PV) (S:Sto):aC1 ms τ p S = bnd (ms τ S) (consO p):=rfl
@[simp] theorem e_sl1 (lo hi:EM (Option Int)) (τ : En) (p:PV) (S:Sto):sl1 lo hi τ p S = bnd (lo τ S) (sl2 hi τ p):=rfl
@[simp] theorem e_sl2 (hi:EM (Option Int)) (τ : En) (p:PV) (l:Option Int) (S:Sto):sl2 hi τ p l S = bnd (hi τ S) (sl3 p l):=rfl
@[simp] theorem e_sl3 (p:PV) (l h:Option Int) (S:Sto):sl3 p l h S = lift (slP p l h S):=rfl
@[simp] theorem e_mt1 (T:String) (f:OpM) (ms:EM (List PV)) (τ : En) (p:PV) (S:Sto):mt1 T f ms τ p S = if isTy T p S = true then bnd (ms τ S) (mt2 f p) else .bad:=rfl
@[simp] theorem e_mt2 (f:OpM) (p:PV) (ps:List PV) (S:Sto):mt2 f p ps S = lift (f p ps S):=rfl
@[simp] theorem e_comp1 (g:GM) (tt:EM Bool) (el:EM PV) (vs:List Nat) (τ : En) (t:Wk) (S:Sto):comp1 g tt el vs τ t S = newL (accL t g (stepE tt el) [] t.items (wipeE τ vs) S):=rfl
@[simp] theorem e_comp2a (g:GM) (tt:EM Bool) (m1:EM Wk) (g1:GM) (tt1:EM Bool) (el:EM PV) (vs vs1:List Nat) (τ : En) (t:Wk) (S:Sto):comp2a g tt m1 g1 tt1 el vs vs1 τ t S = newL (accL t g (stepI tt m1 g1 tt1 el vs1) [] t.items (wipeE τ vs) S):=rfl
@[simp] theorem e_m2a (f:PV→PV→PV→Sto→Option (PV × Sto)) (ma mb:EM PV) (τ : En) (d:PV) (S:Sto):m2a f ma mb τ d S = if isDct d S = true then bnd (ma τ S) (m2b f mb τ d) else .bad:=rfl
@[simp] theorem e_m2b (f:PV→PV→PV→Sto→Option (PV × Sto)) (mb:EM PV) (τ : En) (d k:PV) (S:Sto):m2b f mb τ d k S = bnd (mb τ S) (m2c f d k):=rfl
@[simp] theorem e_m2c (f:PV→PV→PV→Sto→Option (PV × Sto)) (d k x:PV) (S:Sto):m2c f d k x S = lift (f d k x S):=rfl
@[simp] theorem e_ifK (s t:SM) (τ : En) (k:Bool) (S:Sto):ifK s t τ k S = if k = true then s τ S else t τ S:=rfl
@[simp] theorem e_setO1 (mo mi:EM PV) (τ : En) (v:PV) (S:Sto):setO1 mo mi τ v S = bndS (mo τ S) τ (setO2 mi τ v):=rfl
@[simp] theorem e_setO2 (mi:EM PV) (τ : En) (v o:PV) (S:Sto):setO2 mi τ v o S = bndS (mi τ S) τ (setO3 τ v o):=rfl
@[simp] theorem e_for1 (g:GM) (b:SM) (τ : En) (t:Wk) (S:Sto):for1 g b τ t S = forL t g b t.items τ S:=rfl
@[simp] theorem e_step1 (el:EM PV) (acc:List PV) (τ : En) (k:Bool) (S:Sto):step1 el acc τ k S = if k = true then bnd (noEr (el τ S)) (step2 acc) else .ok acc S:=rfl
@[simp] theorem e_step2 (acc:List PV) (y:PV) (S:Sto):step2 acc y S = if acc.length < 16777216 then .ok (acc ++ [y]) S else .bad:=rfl
@[simp] theorem e_stepI1 (m1:EM Wk) (g1:GM) (tt1:EM Bool) (el:EM PV) (vs1:List Nat) (acc:List PV) (τ : En) (k:Bool) (S:Sto):stepI1 m1 g1 tt1 el vs1 acc τ k S = if k = true then bnd (noEr (m1 τ S)) (stepI2 g1 tt1 el vs1 acc τ) else .ok acc S:=rfl
@[simp] theorem e_stepI2 (g1:GM) (tt1:EM Bool) (el:EM PV) (vs1:List Nat) (acc:List PV) (τ : En) (t1:Wk) (S:Sto):stepI2 g1 tt1 el vs1 acc τ t1 S = accL t1 g1 (stepE tt1 el) acc t1.items (wipeE τ vs1) S:=rfl
@[simp] theorem e_on1 (f:PV→Sto→Option (PV × Sto)) (p:PV) (S:Sto):on1 f [p] S = f p S:=rfl
@[simp] theorem e_on2 (f:PV→PV→Sto→Option (PV × Sto)) (p q:PV) (S:Sto):on2 f [p,q] S = f p q S:=rfl
variable (τ : En) (S:Sto)
@[simp] theorem e_vV (i:Nat):vV i τ S = match τ[i]? with | some (some v) => .ok v S | _ => .bad:=rfl
@[simp] theorem e_binM (f:Op2) (a b:EM PV):binM f a b τ S = bnd (a τ S) (bin1 f b τ):=rfl
@[simp] theorem e_blM (m:EM PV):blM m τ S = bnd (m τ S) blO:=rfl
@[simp] theorem e_chainM (f f':Op2) (a b c:EM PV):chainM f f' a b c τ S = bnd (a τ S) (ch1 f f' b c τ):=rfl
@[simp] theorem e_isNM (m:EM PV):isNM m τ S = bnd (m τ S) isNO:=rfl
@[simp] theorem e_truM (m:EM PV):truM m τ S = bnd (m τ S) truO:=rfl
@[simp] theorem e_andM (s t:EM Bool):andM s t τ S = bnd (s τ S) (andO t τ):=rfl
@[simp] theorem e_orM (s t:EM Bool):orM s t τ S = bnd (s τ S) (orO t τ):=rfl
@[simp] theorem e_notM (s:EM Bool):notM s τ S = bnd (s τ S) notO:=rfl
@[simp] theorem e_andV (s t:EM PV):andV s t τ S = bnd (s τ S) (andVO t τ):=rfl
@[simp] theorem e_notV (s:EM PV):notV s τ S = bnd (s τ S) notVO:=rfl
@[simp] theorem e_orTM (s t:EM PV):orTM s t τ S = bnd (s τ S) (orTO t τ):=rfl
@[simp] theorem e_ifM (c:EM Bool) (s t:EM PV):ifM c s t τ S = bnd (c τ S) (ifO s t τ):=rfl
@[simp] theorem e_aN:aN τ S = .ok [] S:=rfl
@[simp] theorem e_aC (m:EM PV) (ms:EM (List PV)):aC m ms τ S = bnd (m τ S) (aC1 ms τ):=rfl
@[simp] theorem e_tupM (ms:EM (List PV)):tupM ms τ S = bnd (ms τ S) tupO:=rfl
@[simp] theorem e_lstM (ms:EM (List PV)):lstM ms τ S = bnd (ms τ S) lstO:=rfl
@[simp] theorem e_oN:oN τ S = .ok none S:=rfl
@[simp] theorem e_oS (m:EM PV):oS m τ S = bnd (m τ S) oSO:=rfl
@[simp] theorem e_slM (m:EM PV) (lo hi:EM (Option Int)):slM m lo hi τ S = bnd (m τ S) (sl1 lo hi τ):=rfl
@[simp] theorem e_unM (f:PV→Sto→Option (PV × Sto)) (m:EM PV):unM f m τ S = bnd (m τ S) (unO f):=rfl
@[simp] theorem e_callM (f:OpN) (ms:EM (List PV)):callM f ms τ S = bnd (ms τ S) (callO f):=rfl
@[simp] theorem e_isiM (T:String) (m:EM PV):isiM T m τ S = bnd (m τ S) (isiO T):=rfl
@[simp] theorem e_mtM (T:String) (f:OpM) (m:EM PV) (ms:EM (List PV)):mtM T f m ms τ S = bnd (m τ S) (mt1 T f ms τ):=rfl
@[simp] theorem e_callD (F:FM) (ms:EM (List PV)):callD F ms τ S = bnd (ms τ S) F:=rfl
@[simp] theorem e_seqM (m:EM PV):seqM m τ S = bnd (m τ S) seqMO:=rfl
@[simp] theorem e_rng1M (m:EM PV):rng1M m τ S = bnd (m τ S) rng1O:=rfl
@[simp] theorem e_yesM:yesM τ S = .ok true S:=rfl
@[simp] theorem e_compM (m:EM Wk) (g:GM) (tt:EM Bool) (el:EM PV) (vs:List Nat):compM m g tt el vs τ S = bnd (m τ S) (comp1 g tt el vs τ):=rfl
@[simp] theorem e_comp2M (m:EM Wk) (g:GM) (tt:EM Bool) (m1:EM Wk) (g1:GM) (tt1:EM Bool) (el:EM PV) (vs vs1:List Nat):comp2M m g tt m1 g1 tt1 el vs vs1 τ S = bnd (m τ S) (comp2a g tt m1 g1 tt1 el vs vs1 τ):=rfl
@[simp] theorem zq6:dictM τ S = .ok (.loc S.length) (S ++ [.dct []]):=rfl
@[simp] theorem e_m2M (f:PV→PV→PV→Sto→Option (PV × Sto)) (mo ma mb:EM PV):m2M f mo ma mb τ S = bnd (mo τ S) (m2a f ma mb τ):=rfl
@[simp] theorem e_nopS:nopS τ S = .nx τ S:=rfl
@[simp] theorem e_seqS (s t:SM):seqS s t τ S = seqO (s τ S) t:=rfl
@[simp] theorem e_neverS:neverS τ S = .bad:=rfl
@[simp] theorem e_exprS (m:EM PV):exprS m τ S = bndS (m τ S) τ (nxO τ):=rfl
@[simp] theorem e_retS (m:EM PV):retS m τ S = bndS (m τ S) τ rtO:=rfl
@[simp] theorem e_ifS (c:EM Bool) (s t:SM):ifS c s t τ S = bndS (c τ S) τ (ifK s t τ):=rfl
@[simp] theorem e_gN (i:Nat) (p:PV):gN i p τ = some (τ.set i (some p)):=rfl
@[simp] theorem e_gsN:gsN [] τ = some τ:=rfl
@[simp] theorem e_gsC (g:GM) (h:GMs) (p:PV) (r:List PV):gsC g h (p :: r) τ = (g p τ).bind (h r):=rfl
@[simp] theorem e_gT (n:Nat) (g:GMs) (xs:List PV):gT n g (.tup xs) τ = if xs.length = n then g xs τ else none:=rfl
@[simp] theorem e_asgS (m:EM PV) (g:GM):asgS m g τ S = bndS (m τ S) τ (asgO g τ):=rfl
@[simp] theorem e_setS (m mo mi:EM PV):setS m mo mi τ S = bndS (m τ S) τ (setO1 mo mi τ):=rfl
@[simp] theorem e_forS (m:EM Wk) (g:GM) (b:SM):forS m g b τ S = bndS (m τ S) τ (for1 g b τ):=rfl
end
section
variable {α : Type} (S:Sto)
@[simp high] theorem wp_ite_bad {c:Prop} [Decidable c] {a:Out α} {P : α→Sto→Prop} {R:Str→PV→Sto→Prop}:wp (if c then a else .bad) P R↔(c∧wp a P R):=by
 split <;> simp_all
@[simp high] theorem wpS_ite_bad {c:Prop} [Decidable c] {a:OS} {N:En→Sto→Prop} {T:PV→Sto→Prop} {R:Str→PV→En→Sto→Prop}:wpS (if c then a else .bad) N T R↔(c∧wpS a N T R):=by
 split <;> simp_all
@[simp] theorem lift_ite {c:Prop} [Decidable c] {a b:Option (α × Sto)}:lift (if c then a else b) = if c then lift a else lift b:=by split <;> rfl
@[simp] theorem bnd_ite {β : Type} {c:Prop} [Decidable c] {a b:Out α} {f : α→Sto→Out β}:bnd (if c then a else b) f = if c then bnd a f else bnd b f:=by split <;> rfl
@[simp] theorem bndS_ite {c:Prop} [Decidable c] {a b:Out α} {τ : En} {f : α→Sto→OS}:bndS (if c then a else b) τ f = if c then bndS a τ f else bndS b τ f:=by split <;> rfl
@[simp] theorem seqO_ite {c:Prop} [Decidable c] {a b:OS} {k:SM}:seqO (if c then a else b) k = if c then seqO a k else seqO b k:=by split <;> rfl
@[simp] theorem addP_int (i j:Int):addP (.int i) (.int j) S = some (.int (i + j),S):=rfl
@[simp] theorem addP_str (a b:Str):addP (.str a) (.str b) S = if a.length + b.length ≤ 16777216 then some (.str (a ++ b),S) else none:=rfl
@[simp] theorem addP_tup (a b:List PV):addP (.tup a) (.tup b) S = if a.length + b.length ≤ 16777216 then some (.tup (a ++ b),S) else none:=rfl
@[simp] theorem zq1 (l k:Nat):addP (.loc l) (.loc k) S = match S[l]?,S[k]? with
  | some (.lst a),some (.lst b) => if a.length + b.length ≤ 16777216 then some (.loc S.length,S ++ [.lst (a ++ b)]) else none
  | _,_ => none:=rfl
@[simp] theorem subP_int (i j:Int):subP (.int i) (.int j) S = some (.int (i - j),S):=rfl
@[simp] theorem mulP_int (i j:Int):mulP (.int i) (.int j) S = if (-(2 ^ 64) < i∧i < 2 ^ 64) ∨ (-(2 ^ 64) < j∧j < 2 ^ 64) then some (.int (i * j),S) else none:=rfl
@[simp] theorem mulP_str (x:Str) (n:Int):mulP (.str x) (.int n) S = if 0 ≤ n∧n ≤ 1000000∧x.length ≤ 16777216∧x.length * n.toNat ≤ 16777216 then some (.str (Txt.mul x n),S) else none:=rfl
@[simp] theorem fdivP_int (i j:Int):fdivP (.int i) (.int j) S = if 0 < j∧j.natAbs < 1267650600228229401496703205376 then some (.int (i / j),S) else none:=by
 show (if 0 < j∧j.natAbs < 1267650600228229401496703205376 then some (PV.int (i / j)) else none).map (fun v => (v,S)) = _
 split <;> rfl
@[simp] theorem modP_int (i j:Int):modP (.int i) (.int j) S = if 0 < j then some (.int (i % j),S) else none:=by
 show (if 0 < j then some (PV.int (i % j)) else none).map (fun v => (v,S)) = _
 split <;> rfl
@[simp] theorem powP_int (i j:Int):powP (.int i) (.int j) S = if 0 ≤ j∧j ≤ 1000000∧i.natAbs < 2 ^ 64 then some (.int (i ^ j.toNat),S) else none:=by
 show (if 0 ≤ j∧j ≤ 1000000∧i.natAbs < 2 ^ 64 then some (PV.int (i ^ j.toNat)) else none).map (fun v => (v,S)) = _
 split <;> rfl
@[simp] theorem ltP_int (i j:Int):ltP (.int i) (.int j) S = some (.bl (decide (i < j)),S):=(rfl)
@[simp] theorem leP_int (i j:Int):leP (.int i) (.int j) S = some (.bl (decide (i ≤ j)),S):=(rfl)
@[simp] theorem gtP_int (i j:Int):gtP (.int i) (.int j) S = some (.bl (decide (j < i)),S):=(rfl)
@[simp] theorem geP_int (i j:Int):geP (.int i) (.int j) S = some (.bl (decide (j ≤ i)),S):=(rfl)
@[simp] theorem eqP_ap (p q:PV):eqP p q S = (eqB p q S).map fun b => (.bl b,S):=rfl
@[simp] theorem neP_ap (p q:PV):neP p q S = (eqB p q S).map fun b => (.bl (!b),S):=rfl
@[simp] theorem inP_ap (p q:PV):inP p q S = (inB p q S).map fun b => (.bl b,S):=rfl
@[simp] theorem notInP_ap (p q:PV):notInP p q S = (inB p q S).map fun b => (.bl (!b),S):=rfl
@[simp] theorem eqB_int (i j:Int):eqB (.int i) (.int j) S = some (decide (i = j)):=(rfl)
@[simp] theorem eqB_str (i j:Str):eqB (.str i) (.str j) S = some (decide (i = j)):=(rfl)
@[simp] theorem eqB_bl (i j:Bool):eqB (.bl i) (.bl j) S = some (decide (i = j)):=(rfl)
@[simp] theorem getP_tup (xs:List PV) (i:Int):getP (.tup xs) (.int i) S = (atI xs i).map fun v => (v,S):=rfl
@[simp] theorem getP_fls (xs:List PV) (i:Int):getP (.fls xs) (.int i) S = (atI xs i).map fun v => (v,S):=rfl
@[simp] theorem getP_str (x:Str) (i:Int):getP (.str x) (.int i) S = if x.length ≤ 16777216 then (atI x.cps.toList i).map fun c => (.str ⟨#[c]⟩,S) else none:=rfl
@[simp] theorem getP_loc (l:Nat) (i:Int):getP (.loc l) (.int i) S = match S[l]? with | some (.lst xs) => (atI xs i).map fun v => (v,S) | _ => none:=by
 unfold getP; cases h:S[l]? with
 | none => simp [h]
 | some o => cases o <;> simp [h]
@[simp] theorem atI_0 {β : Type} (x : β) (xs:List β):atI (x :: xs) 0 = some x:=by
 have e:ixN (x :: xs).length 0 = some 0:=by
  unfold ixN; rw [if_pos (by omega),if_pos (by simp only [List.length_cons]; omega)]; rfl
 unfold atI; rw [e]; rfl
@[simp] theorem atI_1 {β : Type} (x y : β) (xs:List β):atI (x :: y :: xs) 1 = some y:=by
 have e:ixN (x :: y :: xs).length 1 = some 1:=by
  unfold ixN; rw [if_pos (by omega),if_pos (by simp only [List.length_cons]; omega)]; rfl
 unfold atI; rw [e]; rfl
@[simp] theorem atI_2 {β : Type} (x y z : β) (xs:List β):atI (x :: y :: z :: xs) 2 = some z:=by
 have e:ixN (x :: y :: z :: xs).length 2 = some 2:=by
  unfold ixN; rw [if_pos (by omega),if_pos (by simp only [List.length_cons]; omega)]; rfl
 unfold atI; rw [e]; rfl
@[simp] theorem atI_3 {β : Type} (x y z w : β) (xs:List β):atI (x :: y :: z :: w :: xs) 3 = some w:=by
 have e:ixN (x :: y :: z :: w :: xs).length 3 = some 3:=by
  unfold ixN; rw [if_pos (by omega),if_pos (by simp only [List.length_cons]; omega)]; rfl
 unfold atI; rw [e]; rfl
theorem atI_nat {β : Type} {xs:List β} {i:Int} (h0:0 ≤ i) (h:i < xs.length):∃ x,atI xs i = some x∧xs[i.toNat]? = some x∧x ∈ xs:=by
 have hlt:i.toNat < xs.length:=by omega
 refine ⟨xs[i.toNat],?_,List.getElem?_eq_getElem hlt,List.getElem_mem hlt⟩
 unfold atI ixN
 simp only [if_pos h0,if_pos h,Option.bind_some]
 exact List.getElem?_eq_getElem hlt
@[simp] theorem setP_loc (l:Nat) (k:Int) (v:PV):setP (.loc l) (.int k) v S = match S[l]? with | some (.lst xs) => (ixN xs.length k).map fun j => S.set l (.lst (xs.set j v)) | _ => none:=rfl
@[simp] theorem isTy_loc (T:String) (l:Nat):isTy T (.loc l) S = match S[l]? with | some (.lst _) => T == "list" | some (.dct _) => T == "dict" | _ => false:=rfl
@[simp] theorem isTy_str (T:String) (x:Str):isTy T (.str x) S = (T == "str"):=rfl
@[simp] theorem appendP_loc (l:Nat) (q:PV):appendP (.loc l) [q] S = match S[l]? with | some (.lst xs) => if xs.length < 16777216 then some (.non,S.set l (.lst (xs ++ [q]))) else none | _ => none:=rfl
@[simp] theorem extendP_loc (l m:Nat):extendP (.loc l) [.loc m] S = match S[l]?,S[m]? with
  | some (.lst xs),some (.lst ys) => if xs.length + ys.length ≤ 16777216 then some (.non,S.set l (.lst (xs ++ ys))) else none
  | _,_ => none:=rfl
@[simp] theorem insertP_loc (l:Nat) (i:Int) (q:PV):insertP (.loc l) [.int i,q] S = match S[l]? with
  | some (.lst xs) => if xs.length < 16777216∧0 ≤ i∧i < 4611686018427387904 then some (.non,S.set l (.lst (xs.take i.toNat ++ [q] ++ xs.drop i.toNat))) else none
  | _ => none:=rfl
@[simp] theorem popP_loc (l:Nat) (ps:List PV):popP (.loc l) ps S = match S[l]? with
  | some (.lst xs) => match ps with
   | [] => (xs[xs.length - 1]?).map fun y => (y,S.set l (.lst xs.dropLast))
   | [.int i] => if -4611686018427387904 ≤ i∧i < 4611686018427387904 then (ixN xs.length i).bind fun j => (xs[j]?).map fun y => (y,S.set l (.lst (xs.eraseIdx j))) else none
   | _ => none
  | _ => none:=rfl
@[simp] theorem lenP_tup (xs:List PV):lenP (.tup xs) S = some (.int xs.length,S):=rfl
@[simp] theorem lenP_fls (xs:List PV):lenP (.fls xs) S = some (.int xs.length,S):=rfl
@[simp] theorem lenP_str (x:Str):lenP (.str x) S = if x.length ≤ 16777216 then some (.int x.length,S) else none:=rfl
@[simp] theorem lenP_loc (l:Nat):lenP (.loc l) S = match S[l]? with | some (.lst xs) => some (.int xs.length,S) | some (.dct kvs) => some (.int kvs.length,S) | _ => none:=rfl
@[simp] theorem itemsP_tup (xs:List PV):itemsP (.tup xs) S = some xs:=rfl
@[simp] theorem itemsP_fls (xs:List PV):itemsP (.fls xs) S = some xs:=rfl
@[simp] theorem itemsP_loc (l:Nat):itemsP (.loc l) S = match S[l]? with | some (.lst xs) => some xs | _ => none:=rfl
@[simp] theorem zq3 (p:PV):listP p S = (itemsP p S).map fun xs => (.loc S.length,S ++ [.lst xs]):=rfl
@[simp] theorem tupleP_ap (p:PV):tupleP p S = (itemsP p S).map fun xs => (.tup xs,S):=rfl
@[simp] theorem allP_loc (l:Nat):allP (.loc l) S = match S[l]? with | some (.lst xs) => (boolsP xs).map fun bs => (.bl (bs.all id),S) | _ => none:=rfl
@[simp] theorem anyP_loc (l:Nat):anyP (.loc l) S = match S[l]? with | some (.lst xs) => (boolsP xs).map fun bs => (.bl (bs.any id),S) | _ => none:=rfl
@[simp] theorem intP_int (i:Int):intP (.int i) S = some (.int i,S):=rfl
@[simp] theorem maxP_int (i j:Int):maxP (.int i) (.int j) S = some (.int (if j > i then j else i),S):=rfl
@[simp] theorem negP_int (i:Int):negP (.int i) S = some (.int (-i),S):=rfl
@[simp] theorem zq5 (l:Nat):revP (.loc l) S = match S[l]? with | some (.lst xs) => some (.loc S.length,S ++ [.lst xs.reverse]) | _ => none:=rfl
@[simp] theorem slP_tup (xs:List PV) (lo hi:Option Int):slP (.tup xs) lo hi S = some (.tup (cutP xs lo hi),S):=rfl
@[simp] theorem slP_fls (xs:List PV) (lo hi:Option Int):slP (.fls xs) lo hi S = some (.loc S.length,S ++ [.lst (cutP xs lo hi)]):=rfl
@[simp] theorem slP_str (x:Str) (lo hi:Option Int):slP (.str x) lo hi S = if x.length ≤ 16777216 then some (.str (cutS x lo hi),S) else none:=rfl
@[simp] theorem zq4 (l:Nat) (lo hi:Option Int):slP (.loc l) lo hi S = match S[l]? with | some (.lst xs) => some (.loc S.length,S ++ [.lst (cutP xs lo hi)]) | _ => none:=rfl
@[simp] theorem itrP_tup (xs:List PV):itrP (.tup xs) S = some ⟨xs,[]⟩:=rfl
@[simp] theorem itrP_fls (xs:List PV):itrP (.fls xs) S = some ⟨xs,[]⟩:=rfl
@[simp] theorem itrP_str (x:Str):itrP (.str x) S = some ⟨x.cps.toList.map fun c => .str ⟨#[c]⟩,[]⟩:=rfl
@[simp] theorem itrP_loc (l:Nat):itrP (.loc l) S = match S[l]? with | some (.lst xs) => some ⟨xs,[(l,.lst xs)]⟩ | _ => none:=rfl
@[simp] theorem wk_ok0 (xs:List PV):(Wk.ok ⟨xs,[]⟩ S) = True:=by simp [Wk.ok]
@[simp] theorem wk_ok1 (xs:List PV) (o:Ob) (l:Nat):(Wk.ok ⟨xs,[(l,o)]⟩ S) = (S[l]? = some o):=by simp [Wk.ok]
@[simp] theorem truP_bl (b:Bool):truP (.bl b) S = some b:=rfl
@[simp] theorem truP_int (i:Int):truP (.int i) S = some (i != 0):=rfl
@[simp] theorem truP_non:truP .non S = some false:=rfl
@[simp] theorem isNon_non:isNon .non = true:=rfl
@[simp] theorem isNon_bl (b:Bool):isNon (.bl b) = false:=rfl
@[simp] theorem isNon_int (i:Int):isNon (.int i) = false:=rfl
@[simp] theorem isNon_str (x:Str):isNon (.str x) = false:=rfl
@[simp] theorem isNon_tup (xs:List PV):isNon (.tup xs) = false:=rfl
@[simp] theorem isNon_fls (xs:List PV):isNon (.fls xs) = false:=rfl
@[simp] theorem isNon_loc (l:Nat):isNon (.loc l) = false:=rfl
@[simp] theorem isDct_loc (l:Nat):isDct (.loc l) S = match S[l]? with | some (.dct _) => true | _ => false:=rfl
@[simp] theorem keyP_int (i:Int):keyP (.int i) = some (.inl i):=rfl
@[simp] theorem keyP_str (x:Str):keyP (.str x) = some (.inr x):=rfl
@[simp] theorem setdefP_loc (l:Nat) (k x:PV):setdefP (.loc l) k x S = match S[l]?,keyP k with
  | some (.dct kvs),some kk => if kvs.length < 16777216 then (match valP kvs kk with | some v => some (v,S) | none => some (x,S.set l (.dct (putP kvs kk x)))) else none
  | _,_ => none:=rfl
@[simp] theorem get2P_loc (l:Nat) (k x:PV):get2P (.loc l) k x S = match S[l]?,keyP k with | some (.dct kvs),some kk => some ((valP kvs kk).getD x,S) | _,_ => none:=rfl
@[simp] theorem joinP_str (a:Str) (q:PV):joinP (.str a) [q] S = ((itemsP q S).bind strsP).bind fun ys => if (ys.map (·.length)).sum + ys.length * a.length ≤ 16777216 then some (.str (Txt.join a ys),S) else none:=rfl
@[simp] theorem ixN_1_0:ixN 1 0 = some 0:=by rfl
@[simp] theorem ixN_2_0:ixN 2 0 = some 0:=by rfl
@[simp] theorem ixN_2_1:ixN 2 1 = some 1:=by rfl
@[simp] theorem ixN_3_0:ixN 3 0 = some 0:=by rfl
@[simp] theorem ixN_3_1:ixN 3 1 = some 1:=by rfl
@[simp] theorem ixN_3_2:ixN 3 2 = some 2:=by rfl
@[simp] theorem ixN_4_0:ixN 4 0 = some 0:=by rfl
@[simp] theorem ixN_4_1:ixN 4 1 = some 1:=by rfl
@[simp] theorem ixN_4_2:ixN 4 2 = some 2:=by rfl
@[simp] theorem ixN_4_3:ixN 4 3 = some 3:=by rfl
@[simp] theorem ixN_5_0:ixN 5 0 = some 0:=by rfl
@[simp] theorem ixN_5_1:ixN 5 1 = some 1:=by rfl
@[simp] theorem ixN_5_2:ixN 5 2 = some 2:=by rfl
@[simp] theorem ixN_5_3:ixN 5 3 = some 3:=by rfl
@[simp] theorem ixN_5_4:ixN 5 4 = some 4:=by rfl
@[simp] theorem isi_bool_bl (b:Bool):isiP "bool" (.bl b) S = some true:=by rfl
@[simp] theorem isi_bool_int (b:Int):isiP "bool" (.int b) S = some false:=by rfl
@[simp] theorem isi_bool_str (b:Str):isiP "bool" (.str b) S = some false:=by rfl
@[simp] theorem isi_bool_tup (b:List PV):isiP "bool" (.tup b) S = some false:=by rfl
@[simp] theorem isi_int_bl (b:Bool):isiP "int" (.bl b) S = some true:=by rfl
@[simp] theorem isi_int_int (b:Int):isiP "int" (.int b) S = some true:=by rfl
@[simp] theorem isi_int_str (b:Str):isiP "int" (.str b) S = some false:=by rfl
@[simp] theorem isi_int_tup (b:List PV):isiP "int" (.tup b) S = some false:=by rfl
@[simp] theorem isi_str_bl (b:Bool):isiP "str" (.bl b) S = some false:=by rfl
@[simp] theorem isi_str_int (b:Int):isiP "str" (.int b) S = some false:=by rfl
@[simp] theorem isi_str_str (b:Str):isiP "str" (.str b) S = some true:=by rfl
@[simp] theorem isi_str_tup (b:List PV):isiP "str" (.tup b) S = some false:=by rfl
@[simp] theorem isi_list_bl (b:Bool):isiP "list" (.bl b) S = some false:=by rfl
@[simp] theorem isi_list_int (b:Int):isiP "list" (.int b) S = some false:=by rfl
@[simp] theorem isi_list_str (b:Str):isiP "list" (.str b) S = some false:=by rfl
@[simp] theorem isi_list_tup (b:List PV):isiP "list" (.tup b) S = some false:=by rfl
@[simp] theorem isi_tuple_bl (b:Bool):isiP "tuple" (.bl b) S = some false:=by rfl
@[simp] theorem isi_tuple_int (b:Int):isiP "tuple" (.int b) S = some false:=by rfl
@[simp] theorem isi_tuple_str (b:Str):isiP "tuple" (.str b) S = some false:=by rfl
@[simp] theorem isi_tuple_tup (b:List PV):isiP "tuple" (.tup b) S = some true:=by rfl
theorem isi_loc_lst {T:String} {l:Nat} {xs:List PV} (h:S[l]? = some (.lst xs)):isiP T (.loc l) S = kitB "list" T:=by
 simp [isiP,tyNm,h]
@[simp] theorem kit_lb:kitB "list" "bool" = some false:=by rfl
@[simp] theorem kit_li:kitB "list" "int" = some false:=by rfl
@[simp] theorem kit_ls:kitB "list" "str" = some false:=by rfl
@[simp] theorem kit_ll:kitB "list" "list" = some true:=by rfl
@[simp] theorem kit_lt:kitB "list" "tuple" = some false:=by rfl
end
section
variable {N:En→Sto→Prop} {T:PV→Sto→Prop} {R:Str→PV→En→Sto→Prop}
theorem forL_inv {t:Wk} {g:GM} {b:SM} (Inv:List PV→List PV→En→Sto→Prop) {items:List PV} {τ : En} {S:Sto} (h0:Inv [] items τ S)
  (hs:∀ dn p rs τ S,items = dn ++ p :: rs→Inv dn (p :: rs) τ S→t.ok S∧∃ τ1,g p τ = some τ1∧wpS (b τ1 S) (Inv (dn ++ [p]) rs) T R)
  (he:∀ τ S,Inv items [] τ S→t.ok S∧N τ S):wpS (forL t g b items τ S) N T R:=by
 have key:∀ (rs dn:List PV) (τ : En) (S:Sto),items = dn ++ rs→Inv dn rs τ S→wpS (forL t g b rs τ S) N T R:=by
  intro rs
  induction rs with
  | nil =>
   intro dn τ S e h
   have e':items = dn:=by simpa using e
   subst e'
   obtain ⟨h1,h2⟩:=he τ S h
   simp only [forL,if_pos h1]
   exact h2
  | cons p rs ih =>
   intro dn τ S e h
   obtain ⟨h1,τ1,h2,h3⟩:=hs dn p rs τ S e h
   simp only [forL,if_pos h1,h2]
   rw [wpS_seqO]
   exact wpS_mono h3 (fun τ' S' hh => ih (dn ++ [p]) τ' S' (by rw [e]; simp) hh) (fun _ _ k => k) fun _ _ _ _ k => k
 exact key items [] τ S rfl h0
theorem accL_inv {P:List PV→Sto→Prop} {R:Str→PV→Sto→Prop} {t:Wk} {g:GM} {st:List PV→En→Sto→Out (List PV)} (Inv:List PV→List PV→List PV→Sto→Prop) {items:List PV} {acc:List PV} {τ : En} {S:Sto} (h0:Inv [] items acc S)
  (hs:∀ dn p rs acc S,items = dn ++ p :: rs→Inv dn (p :: rs) acc S→t.ok S∧∃ τ1,g p τ = some τ1∧wp (st acc τ1 S) (Inv (dn ++ [p]) rs) R)
  (he:∀ acc S,Inv items [] acc S→t.ok S∧P acc S):wp (accL t g st acc items τ S) P R:=by
 have key:∀ (rs dn acc:List PV) (S:Sto),items = dn ++ rs→Inv dn rs acc S→wp (accL t g st acc rs τ S) P R:=by
  intro rs
  induction rs with
  | nil =>
   intro dn acc S e h
   have e':items = dn:=by simpa using e
   subst e'
   obtain ⟨h1,h2⟩:=he acc S h
   rw [accL_nil,if_pos h1]
   exact h2
  | cons p rs ih =>
   intro dn acc S e h
   obtain ⟨h1,τ1,h2,h3⟩:=hs dn p rs acc S e h
   simp only [accL,if_pos h1,h2]
   rw [wp_bnd]
   exact wp_mono h3 (fun a S' hh => ih (dn ++ [p]) a S' (by rw [e]; simp) hh) fun _ _ _ k => k
 exact key items [] acc S rfl h0
theorem stepE_wp {tt:EM Bool} {el:EM PV} {acc:List PV} {τ : En} {S:Sto} {P:List PV→Sto→Prop} {R:Str→PV→Sto→Prop} :
  wp (stepE tt el acc τ S) P R = wp (tt τ S) (wK (step1 el acc τ) P R) noK:=by
 show wp (bnd (noEr (tt τ S)) (step1 el acc τ)) P R = _
 rw [wp_bnd,e_noEr]
 rfl
theorem stepI_wp {tt:EM Bool} {m1:EM Wk} {g1:GM} {tt1:EM Bool} {el:EM PV} {vs1:List Nat} {acc:List PV} {τ : En} {S:Sto} {P:List PV→Sto→Prop} {R:Str→PV→Sto→Prop} :
  wp (stepI tt m1 g1 tt1 el vs1 acc τ S) P R = wp (tt τ S) (wK (stepI1 m1 g1 tt1 el vs1 acc τ) P R) noK:=by
 show wp (bnd (noEr (tt τ S)) (stepI1 m1 g1 tt1 el vs1 acc τ)) P R = _
 rw [wp_bnd,e_noEr]
 rfl
theorem whileN_mono {c:EM Bool} {b:SM}:∀ (n m:Nat) (τ : En) (S:Sto),n ≤ m→whileN c b n τ S ≠ .bad→whileN c b m τ S = whileN c b n τ S:=by
 intro n
 induction n with
 | zero => intro m τ S _ h; exact absurd rfl h
 | succ n ih =>
  intro m τ S hm h
  obtain ⟨m,rfl⟩:∃ k,m = k + 1:=⟨m - 1,by omega⟩
  simp only [whileN] at h ⊢
  cases hc:c τ S with
  | er c p S1 => rfl
  | bad => rfl
  | ok k S1 =>
   rw [hc] at h
   simp only [bndS_ok] at h ⊢
   by_cases hk:k = true
   ·rw [if_pos hk] at h ⊢
    rw [if_pos hk]
    cases hb:b τ S1 with
    | rt v S2 => rfl
    | er c p τ' S2 => rfl
    | bad => rfl
    | nx τ' S2 =>
     rw [hb] at h
     simp only [seqO_nx] at h ⊢
     exact ih m τ' S2 (by omega) h
   ·rw [if_neg hk,if_neg hk]
theorem whileS_of {c:EM Bool} {b:SM} {n:Nat} {τ : En} {S:Sto} (h:wpS (whileN c b n τ S) N T R):wpS (whileS c b τ S) N T R:=by
 have hne:whileN c b n τ S ≠ .bad:=fun z => by rw [z] at h; exact h
 unfold whileS
 have hx:∃ n,whileN c b n τ S ≠ .bad:=⟨n,hne⟩
 rw [dif_pos hx]
 have h2:=Classical.choose_spec hx
 generalize Classical.choose hx = m at h2 ⊢
 rcases Nat.le_total n m with q | q
 ·rw [whileN_mono n m τ S q hne]; exact h
 ·rw [← whileN_mono m n τ S q h2]; exact h
theorem while_inv {c:EM Bool} {b:SM} (Inv:Nat→En→Sto→Prop) {m:Nat} {τ : En} {S:Sto} (h0:Inv m τ S)
  (hs:∀ m τ S,Inv m τ S→wp (c τ S) (fun k S1 => (k = true→wpS (b τ S1) (fun τ' S' => ∃ j,j < m∧Inv j τ' S') T R)∧(k = false→N τ S1)) (fun c p S1 => R c p τ S1)):wpS (whileS c b τ S) N T R:=by
 suffices hh:∀ m τ S,Inv m τ S→∃ n,wpS (whileN c b n τ S) N T R by
  obtain ⟨n,h⟩:=hh m τ S h0
  exact whileS_of h
 intro m
 induction m using Nat.strongRecOn with
 | ind m ih =>
  intro τ S h
  have h1:=hs m τ S h
  cases hc:c τ S with
  | bad => rw [hc] at h1; exact h1.elim
  | er c' p S1 => rw [hc] at h1; exact ⟨1,by simp only [whileN,hc]; exact h1⟩
  | ok k S1 =>
   rw [hc] at h1
   obtain ⟨ht,hf⟩:=h1
   cases k with
   | false => exact ⟨1,by simp only [whileN,hc]; exact hf rfl⟩
   | true =>
    have h2:=ht rfl
    cases hb:b τ S1 with
    | bad => rw [hb] at h2; exact h2.elim
    | rt v S2 => rw [hb] at h2; exact ⟨1,by simp only [whileN,hc,bndS_ok,if_true,hb]; exact h2⟩
    | er c' p τ' S2 => rw [hb] at h2; exact ⟨1,by simp only [whileN,hc,bndS_ok,if_true,hb]; exact h2⟩
    | nx τ' S2 =>
     rw [hb] at h2
     obtain ⟨j,hj,hi⟩:=h2
     obtain ⟨n,hn⟩:=ih j hj τ' S2 hi
     exact ⟨n + 1,by simp only [whileN,hc,bndS_ok,if_true,hb,seqO_nx]; exact hn⟩
end
def Keep (M:List Nat) (S S':Sto):Prop:=S.length ≤ S'.length∧∀ l,l < S.length→l ∉ M→S'[l]? = S[l]?
section
variable {M:List Nat} {S S1 S2:Sto} {l:Nat} {o:Ob}
theorem lt_of_get (h:S[l]? = some o):l < S.length:=(List.getElem?_eq_some_iff.mp h).1
theorem Keep.refl:Keep M S S:=⟨Nat.le_refl _,fun _ _ _ => rfl⟩
theorem Keep.trans (a:Keep M S S1) (b:Keep M S1 S2):Keep M S S2:=⟨Nat.le_trans a.1 b.1,fun l h n => (b.2 l (Nat.lt_of_lt_of_le h a.1) n).trans (a.2 l h n)⟩
theorem Keep.mono {M':List Nat} (a:Keep M S S1) (h:∀ x ∈ M,x < S.length→x ∈ M'):Keep M' S S1:=⟨a.1,fun l hl n => a.2 l hl fun m => n (h l m hl)⟩
theorem Keep.get (k:Keep M S S1) (h:S[l]? = some o) (n:l ∉ M):S1[l]? = some o:=(k.2 l (lt_of_get h) n).trans h
theorem Keep.lt (k:Keep M S S1) (h:l < S.length):l < S1.length:=Nat.lt_of_lt_of_le h k.1
theorem Keep.app:Keep M S (S ++ [o]):=⟨by simp,fun l h _ => List.getElem?_append_left h⟩
theorem Keep.set (h:l ∈ M):Keep M S (S.set l o):=⟨by simp,fun i _ n => List.getElem?_set_ne fun z => n (by rw [← z]; exact h)⟩
theorem app_new:(S ++ [o])[S.length]? = some o:=by simp
theorem set_get {o':Ob} (h:S[l]? = some o'):(S.set l o)[l]? = some o:=List.getElem?_set_self (lt_of_get h)
end
mutual
def Pl:Nat→PV→Prop
 | _,.non => True
 | _,.int _ => True
 | _,.str x => x.cps.all (· < 0x110000) = true
 | 0,_ => False
 | n + 1,.tup xs => PlL n xs
 | _,_ => False
def PlL:Nat→List PV→Prop
 | _,[] => True
 | n,x :: xs => Pl n x∧PlL n xs
end
theorem PlL_iff {n:Nat}:∀ {xs:List PV},PlL n xs↔∀ x ∈ xs,Pl n x
 | [] => by simp [PlL]
 | x :: xs => by simp [PlL,PlL_iff (xs:=xs)]
mutual
theorem Pl.up:∀ (n:Nat) (p:PV),Pl n p→Pl (n + 1) p
 | _,.non,_ => by simp [Pl]
 | _,.int _,_ => by simp [Pl]
 | n,.str x,h => by cases n <;> simpa [Pl] using h
 | 0,.tup _,h => by simp [Pl] at h
 | n + 1,.tup xs,h => by
  have h':PlL n xs:=by simpa [Pl] using h
  have:=PlL.up n xs h'
  simpa [Pl] using this
 | n,.bl _,h => by cases n <;> simp [Pl] at h
 | n,.fls _,h => by cases n <;> simp [Pl] at h
 | n,.loc _,h => by cases n <;> simp [Pl] at h
 | n,.fn _ _ _,h => by cases n <;> simp [Pl] at h
theorem PlL.up:∀ (n:Nat) (xs:List PV),PlL n xs→PlL (n + 1) xs
 | _,[],_ => by simp [PlL]
 | n,x :: xs,h => by
  have h':Pl n x∧PlL n xs:=by simpa [PlL] using h
  exact ⟨Pl.up n x h'.1,PlL.up n xs h'.2⟩
end
theorem Pl.le {n m:Nat} {p:PV} (h:Pl n p) (k:n ≤ m):Pl m p:=by
 induction k with
 | refl => exact h
 | step _ ih => exact Pl.up _ _ ih
mutual
theorem Pl.toD:∀ (n:Nat) (p:PV),Pl n p→∃ d,toD p = some d∧d.canLay0 = true∧d.depth ≤ n
 | _,.non,_ => ⟨_,rfl,rfl,Nat.zero_le _⟩
 | _,.int _,_ => ⟨_,rfl,rfl,Nat.zero_le _⟩
 | n,.str x,h => ⟨_,rfl,by cases n <;> simpa [Pl,PyData.canLay0,PyData.strOk] using h,Nat.zero_le _⟩
 | 0,.tup _,h => by simp [Pl] at h
 | n + 1,.tup xs,h => by
  obtain ⟨ds,h1,h2,h3⟩:=PlL.toD n xs (by simpa [Pl] using h)
  exact ⟨.tuple ds,by simp [PL.toD,h1],h2,by show PyData.depthAll ds + 1 ≤ n + 1; omega⟩
 | n,.bl _,h => by cases n <;> simp [Pl] at h
 | n,.fls _,h => by cases n <;> simp [Pl] at h
 | n,.loc _,h => by cases n <;> simp [Pl] at h
 | n,.fn _ _ _,h => by cases n <;> simp [Pl] at h
theorem PlL.toD:∀ (n:Nat) (xs:List PV),PlL n xs→∃ ds,toDL xs = some ds∧PyData.canLayAll0 ds = true∧PyData.depthAll ds ≤ n
 | _,[],_ => ⟨[],rfl,rfl,Nat.zero_le _⟩
 | n,x :: xs,h => by
  have h':Pl n x∧PlL n xs:=by simpa [PlL] using h
  obtain ⟨d,h1,h2,h3⟩:=Pl.toD n x h'.1
  obtain ⟨ds,h4,h5,h6⟩:=PlL.toD n xs h'.2
  exact ⟨d :: ds,by simp [PL.toDL,h1,h4],by simp [PyData.canLayAll0,h2,h5],by show max d.depth (PyData.depthAll ds) ≤ n; omega⟩
end
mutual
theorem Pl.eqv:∀ (n:Nat) (p q:PV) (d e:PyData),Pl n p→Pl n q→toD p = some d→toD q = some e→(PyData.eqv d e = true↔p = q)
 | 0,.tup _,_,_,_,h,_,_,_ => by simp [Pl] at h
 | n,.bl _,_,_,_,h,_,_,_ => by cases n <;> simp [Pl] at h
 | n,.fls _,_,_,_,h,_,_,_ => by cases n <;> simp [Pl] at h
 | n,.loc _,_,_,_,h,_,_,_ => by cases n <;> simp [Pl] at h
 | n,.non,q,d,e,_,hq,h1,h2 => by
  cases q <;> first | (exfalso; revert hq; cases n <;> simp [Pl]; done) | skip
  all_goals (simp only [PL.toD,Option.some.injEq] at h1; subst h1)
  ·simp only [PL.toD,Option.some.injEq] at h2; subst h2; simp [PyData.eqv]
  ·simp only [PL.toD,Option.some.injEq] at h2; subst h2; simp [PyData.eqv]
  ·simp only [PL.toD,Option.some.injEq] at h2; subst h2; simp [PyData.eqv]
  ·simp only [PL.toD,Option.map_eq_some_iff] at h2; obtain ⟨_,_,rfl⟩:=h2; simp [PyData.eqv]
 | n,.int i,q,d,e,_,hq,h1,h2 => by
  cases q <;> first | (exfalso; revert hq; cases n <;> simp [Pl]; done) | skip
  all_goals (simp only [PL.toD,Option.some.injEq] at h1; subst h1)
  ·simp only [PL.toD,Option.some.injEq] at h2; subst h2; simp [PyData.eqv]
  ·simp only [PL.toD,Option.some.injEq] at h2; subst h2; simp [PyData.eqv]
  ·simp only [PL.toD,Option.some.injEq] at h2; subst h2; simp [PyData.eqv]
  ·simp only [PL.toD,Option.map_eq_some_iff] at h2; obtain ⟨_,_,rfl⟩:=h2; simp [PyData.eqv]
 | n,.str i,q,d,e,_,hq,h1,h2 => by
  cases q <;> first | (exfalso; revert hq; cases n <;> simp [Pl]; done) | skip
  all_goals (simp only [PL.toD,Option.some.injEq] at h1; subst h1)
  ·simp only [PL.toD,Option.some.injEq] at h2; subst h2; simp [PyData.eqv]
  ·simp only [PL.toD,Option.some.injEq] at h2; subst h2; simp [PyData.eqv]
  ·simp only [PL.toD,Option.some.injEq] at h2; subst h2; simp [PyData.eqv]
  ·simp only [PL.toD,Option.map_eq_some_iff] at h2; obtain ⟨_,_,rfl⟩:=h2; simp [PyData.eqv]
 | n + 1,.tup xs,q,d,e,hp,hq,h1,h2 => by
  simp only [PL.toD,Option.map_eq_some_iff] at h1
  obtain ⟨ds,h1,rfl⟩:=h1
  cases q <;> first | (exfalso; revert hq; simp [Pl]; done) | skip
  ·simp only [PL.toD,Option.some.injEq] at h2; subst h2; simp [PyData.eqv]
  ·simp only [PL.toD,Option.some.injEq] at h2; subst h2; simp [PyData.eqv]
  ·simp only [PL.toD,Option.some.injEq] at h2; subst h2; simp [PyData.eqv]
  ·rename_i ys
   simp only [PL.toD,Option.map_eq_some_iff] at h2
   obtain ⟨es,h2,rfl⟩:=h2
   have:=PlL.eqv n xs ys ds es (by simpa [Pl] using hp) (by simpa [Pl] using hq) h1 h2
   simpa [PyData.eqv] using this
theorem PlL.eqv:∀ (n:Nat) (xs ys:List PV) (ds es:List PyData),PlL n xs→PlL n ys→toDL xs = some ds→toDL ys = some es→(PyData.eqvAll ds es = true↔xs = ys)
 | n,[],[],ds,es,_,_,h1,h2 => by
  simp only [PL.toDL,Option.some.injEq] at h1 h2; subst h1; subst h2; simp [PyData.eqvAll]
 | n,[],y :: ys,ds,es,_,_,h1,h2 => by
  simp only [PL.toDL,Option.some.injEq,Option.bind_eq_some_iff,Option.map_eq_some_iff] at h1 h2
  obtain ⟨_,_,_,_,rfl⟩:=h2; subst h1; simp [PyData.eqvAll]
 | n,x :: xs,[],ds,es,_,_,h1,h2 => by
  simp only [PL.toDL,Option.some.injEq,Option.bind_eq_some_iff,Option.map_eq_some_iff] at h1 h2
  obtain ⟨_,_,_,_,rfl⟩:=h1; subst h2; simp [PyData.eqvAll]
 | n,x :: xs,y :: ys,ds,es,hp,hq,h1,h2 => by
  simp only [PL.toDL,Option.bind_eq_some_iff,Option.map_eq_some_iff] at h1 h2
  obtain ⟨d,a1,dt,a2,rfl⟩:=h1
  obtain ⟨e,b1,et,b2,rfl⟩:=h2
  have hp':Pl n x∧PlL n xs:=by simpa [PlL] using hp
  have hq':Pl n y∧PlL n ys:=by simpa [PlL] using hq
  have i1:=Pl.eqv n x y d e hp'.1 hq'.1 a1 b1
  have i2:=PlL.eqv n xs ys dt et hp'.2 hq'.2 a2 b2
  simp [PyData.eqvAll,i1,i2]
end
theorem shaped_of {d:PyData} (h1:d.canLay0 = true) (h2:d.depth ≤ 64):SeqAt.shaped d = true:=by
 unfold SeqAt.shaped; simp [h1,h2]
theorem eqB_lists {n:Nat} {l k:Nat} {xs ys:List PV} {S:Sto} (hn:n < 64) (hl:S[l]? = some (.lst xs)) (hk:S[k]? = some (.lst ys)) (hp:PlL n xs) (hq:PlL n ys):∃ b,eqB (.loc l) (.loc k) S = some b∧(b = true↔xs = ys):=by
 obtain ⟨d,h1,h2,h3⟩:=PlL.toD n xs hp
 obtain ⟨e,h4,h5,h6⟩:=PlL.toD n ys hq
 unfold eqB
 have hd:SeqAt.shaped (.list d) = true:=shaped_of h2 (by show PyData.depthAll d + 1 ≤ 64; omega)
 have he:SeqAt.shaped (.list e) = true:=shaped_of h5 (by show PyData.depthAll e + 1 ≤ 64; omega)
 simp only [toDS,hl,hk,h1,h4,Option.map_some,hd,he,and_self,if_true]
 exact ⟨_,rfl,by simpa [PyData.eqv] using PlL.eqv n xs ys d e hp hq h1 h4⟩

section
variable {N:En→Sto→Prop} {T:PV→Sto→Prop} {R:Str→PV→En→Sto→Prop}
theorem for_wp {t:Wk} {g:GM} {b:SM} (Inv:List PV→List PV→En→Sto→Prop) {items:List PV} {τ : En} {S:Sto} (h0:Inv [] items τ S)
  (hs:∀ dn p rs τ S (J:En→Sto→Prop),items = dn ++ p :: rs→Inv dn (p :: rs) τ S→(∀ τ' S',Inv (dn ++ [p]) rs τ' S'→J τ' S')→t.ok S∧∃ τ1,g p τ = some τ1∧wpS (b τ1 S) J T R)
  (he:∀ τ S,Inv items [] τ S→t.ok S∧N τ S):wpS (forL t g b items τ S) N T R :=
 forL_inv Inv h0 (fun dn p rs τ S e h => hs dn p rs τ S _ e h fun _ _ k => k) he
theorem acc_wp {P:List PV→Sto→Prop} {R:Str→PV→Sto→Prop} {t:Wk} {g:GM} {st:List PV→En→Sto→Out (List PV)} (Inv:List PV→List PV→List PV→Sto→Prop) {items:List PV} {acc:List PV} {τ : En} {S:Sto} (h0:Inv [] items acc S)
  (hs:∀ dn p rs acc S (J:List PV→Sto→Prop),items = dn ++ p :: rs→Inv dn (p :: rs) acc S→(∀ a S',Inv (dn ++ [p]) rs a S'→J a S')→t.ok S∧∃ τ1,g p τ = some τ1∧wp (st acc τ1 S) J R)
  (he:∀ acc S,Inv items [] acc S→t.ok S∧P acc S):wp (accL t g st acc items τ S) P R :=
 accL_inv Inv h0 (fun dn p rs acc S e h => hs dn p rs acc S _ e h fun _ _ k => k) he
theorem while_wp {c:EM Bool} {b:SM} (Inv:Nat→En→Sto→Prop) {m:Nat} {τ : En} {S:Sto} (h0:Inv m τ S)
  (hs:∀ m τ S (C:Bool→Sto→Prop) (J:En→Sto→Prop),Inv m τ S→(∀ S1,wpS (b τ S1) J T R→C true S1)→(∀ S1,N τ S1→C false S1)→(∀ j τ' S',j < m→Inv j τ' S'→J τ' S')→wp (c τ S) C (rK R τ)):wpS (whileS c b τ S) N T R :=
 while_inv Inv h0 fun m τ S h => hs m τ S _ (fun τ' S' => ∃ j,j < m∧Inv j τ' S') h (fun S1 k => ⟨fun _ => k,fun z => by cases z⟩) (fun S1 k => ⟨fun z => by (cases z),fun _ => k⟩) fun j τ' S' hj hi => ⟨j,hj,hi⟩
theorem wpS_mid {o:OS} (M:En→Sto→Prop) (h:∀ J:En→Sto→Prop,(∀ τ S,M τ S→J τ S)→wpS o J T R) (k:∀ τ S,M τ S→N τ S):wpS o N T R:=h N k
end
theorem forM_wp {α : Type} {N:En→Sto→Prop} {T:PV→Sto→Prop} {R:Str→PV→En→Sto→Prop} {t:Wk} {g:GM} {b:SM} (f : α→PV) {xs:List α} (Inv:List α→En→Sto→Prop) {τ : En} {S:Sto} (h0:Inv [] τ S)
  (hs:∀ dn x rs τ S (J:En→Sto→Prop),xs = dn ++ x :: rs→Inv dn τ S→(∀ τ' S',Inv (dn ++ [x]) τ' S'→J τ' S')→t.ok S∧∃ τ1,g (f x) τ = some τ1∧wpS (b τ1 S) J T R)
  (he:∀ τ S,Inv xs τ S→t.ok S∧N τ S):wpS (forL t g b (xs.map f) τ S) N T R:=by
 have key:∀ (rs dn:List α) (τ : En) (S:Sto),xs = dn ++ rs→Inv dn τ S→wpS (forL t g b (rs.map f) τ S) N T R:=by
  intro rs
  induction rs with
  | nil =>
   intro dn τ S e h
   have e':xs = dn:=by simpa using e
   subst e'
   obtain ⟨h1,h2⟩:=he τ S h
   simp only [List.map_nil,forL,if_pos h1]
   exact h2
  | cons p rs ih =>
   intro dn τ S e h
   obtain ⟨h1,τ1,h2,h3⟩:=hs dn p rs τ S _ e h (fun τ' S' hh => ih (dn ++ [p]) τ' S' (by rw [e]; simp) hh)
   simp only [List.map_cons,forL,if_pos h1,h2]
   rw [wpS_seqO]
   exact h3
 exact key xs [] τ S rfl h0
theorem accM_wp {α : Type} {P:List PV→Sto→Prop} {R:Str→PV→Sto→Prop} {t:Wk} {g:GM} {st:List PV→En→Sto→Out (List PV)} (f : α→PV) {xs:List α} (Inv:List α→List PV→Sto→Prop) {acc:List PV} {τ : En} {S:Sto} (h0:Inv [] acc S)
  (hs:∀ dn x rs acc S (J:List PV→Sto→Prop),xs = dn ++ x :: rs→Inv dn acc S→(∀ a S',Inv (dn ++ [x]) a S'→J a S')→t.ok S∧∃ τ1,g (f x) τ = some τ1∧wp (st acc τ1 S) J R)
  (he:∀ acc S,Inv xs acc S→t.ok S∧P acc S):wp (accL t g st acc (xs.map f) τ S) P R:=by
 have key:∀ (rs dn:List α) (acc:List PV) (S:Sto),xs = dn ++ rs→Inv dn acc S→wp (accL t g st acc (rs.map f) τ S) P R:=by
  intro rs
  induction rs with
  | nil =>
   intro dn acc S e h
   have e':xs = dn:=by simpa using e
   subst e'
   obtain ⟨h1,h2⟩:=he acc S h
   rw [List.map_nil,accL_nil,if_pos h1]
   exact h2
  | cons p rs ih =>
   intro dn acc S e h
   obtain ⟨h1,τ1,h2,h3⟩:=hs dn p rs acc S (fun a S => wp (accL t g st a (rs.map f) τ S) P R) e h (fun a S' hh => ih (dn ++ [p]) a S' (by rw [e]; simp) hh)
   simp only [List.map_cons,accL,if_pos h1,h2]
   rw [wp_bnd]
   exact h3
 exact key xs [] acc S rfl h0
section
variable {P:PV→Sto→Prop} {R:Str→PV→Sto→Prop} {S:Sto} {xs ys:List PV} {l k:Nat} {p:PV}
theorem alloc_wp {Q:PV→Sto→Prop} {o:Ob} (h:∀ n S',S'[n]? = some o→Keep [] S S'→S.length ≤ n→Q (.loc n) S'):Q (.loc S.length) (S ++ [o]) :=
 h _ _ app_new .app (Nat.le_refl _)
theorem new_wp (h:∀ n S',S'[n]? = some (.lst xs)→Keep [] S S'→S.length ≤ n→P (.loc n) S'):newK P xs S:=alloc_wp h
theorem lst_wp (hl:xs.length ≤ 16777216) (h:∀ n S',S'[n]? = some (.lst xs)→Keep [] S S'→S.length ≤ n→P (.loc n) S'):wp (lstO xs S) P R:=by
 rw [zq2,if_pos hl]; exact alloc_wp h
theorem addL_wp (h1:S[l]? = some (.lst xs)) (h2:S[k]? = some (.lst ys)) (hb:xs.length + ys.length ≤ 16777216) (h:∀ n S',S'[n]? = some (.lst (xs ++ ys))→Keep [] S S'→S.length ≤ n→P (.loc n) S'):wp (lift (addP (.loc l) (.loc k) S)) P R:=by
 rw [zq1,h1,h2]
 simp only [if_pos hb,lift_some,wp_ok]
 exact alloc_wp h
theorem slL_wp {lo hi:Option Int} (h1:S[l]? = some (.lst xs)) (h:∀ n S',S'[n]? = some (.lst (cutP xs lo hi))→Keep [] S S'→S.length ≤ n→P (.loc n) S'):wp (lift (slP (.loc l) lo hi S)) P R:=by
 rw [zq4,h1]
 exact alloc_wp h
end
theorem acc_map {α : Type} {P:List PV→Sto→Prop} {R:Str→PV→Sto→Prop} {t:Wk} {g:GM} {st:List PV→En→Sto→Out (List PV)} (i f : α→PV) {xs:List α} {acc:List PV} {τ : En} {S:Sto} (hok:t.ok S) (hl:acc.length + xs.length ≤ 16777216)
  (hs:∀ x ∈ xs,∀ (acc:List PV) (J:List PV→Sto→Prop),acc.length < 16777216→J (acc ++ [f x]) S→∃ τ1,g (i x) τ = some τ1∧wp (st acc τ1 S) J R)
  (he:P (acc ++ xs.map f) S):wp (accL t g st acc (xs.map i) τ S) P R:=by
 induction xs generalizing acc with
 | nil => rw [List.map_nil,accL_nil,if_pos hok]; simpa using he
 | cons x xs ih =>
  simp only [List.length_cons] at hl
  obtain ⟨τ1,h1,h2⟩:=hs x (by simp) acc (fun a S => wp (accL t g st a (xs.map i) τ S) P R) (by omega) (ih (acc:=acc ++ [f x]) (by simp; omega) (fun y hy => hs y (by simp [hy])) (by simpa using he))
  simp only [List.map_cons,accL,if_pos hok,h1]
  rw [wp_bnd]
  exact h2
theorem strsP_comp {α : Type} (f : α→Str) (cs:List α):strsP (cs.map fun c => PV.str (f c)) = some (cs.map f):=by
 induction cs with
 | nil => rfl
 | cons c cs ih => simp [strsP,ih]
theorem strsP_comp' {α : Type} (f : α→Str) (cs:List α):strsP (cs.map (PV.str ∘ f)) = some (cs.map f):=strsP_comp f cs
end PL
namespace PL
open PySem PySem.Spec PyProof.Rows L2
def raO (C:Str) (τ : En):PV→Sto→OS:=fun v S => .er C v τ S
@[simp] theorem e_raO (C:Str) (τ : En) (v:PV) (S:Sto):raO C τ v S = .er C v τ S:=rfl
@[simp] theorem e_raiseS (C:Str) (m:EM PV) (τ : En) (S:Sto):raiseS C m τ S = bndS (m τ S) τ (raO C τ):=rfl
def tryK (cs:List (Str × Bool)) (h:Str→PV→SM) (N:En→Sto→Prop) (T:PV→Sto→Prop) (R:Str→PV→En→Sto→Prop):Str→PV→En→Sto→Prop:=fun c p τ S =>
 match cs.lookup c with | some true => wpS (noErS (h c p τ S)) N T R | some false => R c p τ S | none => False
@[simp] theorem e_tryK (cs:List (Str × Bool)) (h:Str→PV→SM) (N:En→Sto→Prop) (T:PV→Sto→Prop) (R:Str→PV→En→Sto→Prop) (c:Str) (p:PV) (τ : En) (S:Sto) :
  tryK cs h N T R c p τ S = match cs.lookup c with | some true => wpS (noErS (h c p τ S)) N T R | some false => R c p τ S | none => False:=rfl
@[simp] theorem e_tryS (cs:List (Str × Bool)) (b:SM) (h:Str→PV→SM) (τ : En) (S:Sto) (N:En→Sto→Prop) (T:PV→Sto→Prop) (R:Str→PV→En→Sto→Prop):wpS (tryS cs b h τ S) N T R = wpS (b τ S) N T (tryK cs h N T R):=by
 unfold tryS
 cases b τ S with
 | nx τ S => rfl
 | rt v S => rfl
 | bad => rfl
 | er c p τ1 S1 =>
  simp only [wpS_er,e_tryK]
  cases cs.lookup c with
  | none => rfl
  | some b => cases b <;> rfl
def noKS:Str→PV→En→Sto→Prop:=fun _ _ _ _ => False
@[simp] theorem e_noErS (o:OS) (N:En→Sto→Prop) (T:PV→Sto→Prop) (R:Str→PV→En→Sto→Prop):wpS (noErS o) N T R = wpS o N T noKS:=by cases o <;> rfl
end PL
namespace PL
open PySem PySem.Spec PyProof.Rows L2
theorem map_inj_of {α β : Type} {f : α→β} (hf:∀ a b,f a = f b→a = b):∀ {xs ys:List α},xs.map f = ys.map f→xs = ys
 | [],[],_ => rfl
 | [],_ :: _,h => by simp at h
 | _ :: _,[],h => by simp at h
 | x :: xs,y :: ys,h => by
  simp only [List.map_cons,List.cons.injEq] at h
  rw [hf _ _ h.1,map_inj_of hf h.2]
@[simp] theorem ofString_inj {a b:String}:Str.ofString a = Str.ofString b↔a = b:=by
 constructor
 ·intro h
  rw [Str.ofString_eq_toList,Str.ofString_eq_toList] at h
  have h1:a.toList.map Char.toNat = b.toList.map Char.toNat:=by
   have:=congrArg (fun s:Str => s.cps.toList) h
   simpa using this
  have h2:a.toList = b.toList:=map_inj_of (fun x y e => Char.toNat_inj.mp e) h1
  exact String.toList_inj.mp h2
 ·intro h; rw [h]
def ch (x:Str):List Nat:=x.cps.toList
theorem ch_len (x:Str):(ch x).length = x.length:=by simp [ch,Str.length]
theorem ch_app (a b:Str):ch (a ++ b) = ch a ++ ch b:=by
 show (a.cps ++ b.cps).toList = _
 simp [ch]
theorem ch_ext {a b:Str} (h:ch a = ch b):a = b:=by
 cases a; cases b; simp [ch] at h; simp [h]
@[simp] theorem ch_mk (l:List Nat):ch ⟨l.toArray⟩ = l:=by simp [ch]
theorem ch_cut (x:Str) (lo hi:Option Int):ch (cutS x lo hi) = ((ch x).drop (HT.sIx x.length 0 lo)).take (HT.sIx x.length x.length hi - HT.sIx x.length 0 lo):=by
 simp [cutS,ch]
theorem ch_mul1 (c:Nat) (n:Int):ch (Txt.mul ⟨#[c]⟩ n) = List.replicate n.toNat c:=mul_one_list c n
theorem joinL_nil:∀ ps:List (List Nat),TL.joinL [] ps = ps.flatten
 | [] => rfl
 | [p] => by simp [TL.joinL]
 | p :: q :: r => by simp [TL.joinL,joinL_nil (q :: r)]
theorem ch_join0 (ys:List Str):ch (Txt.join ⟨#[]⟩ ys) = (ys.map ch).flatten:=by
 have e:=TL.tl_join ⟨#[]⟩ ys
 rw [← TL.join_eq] at e
 show TL.tl _ = _
 rw [e]
 exact joinL_nil _
def Lt (c:Nat):Prop:=97 ≤ c∧c ≤ 122
instance (c:Nat):Decidable (Lt c):=inferInstanceAs (Decidable (_∧_))
def Lw (x:Str):Prop:=∀ c ∈ ch x,Lt c
structure Nm (x:Str):Prop where
 l:Lw x
 p:1 ≤ x.length
 q:x.length ≤ 8
theorem Lw.plain {x:Str} (h:Lw x) (n:Nat):Pl n (.str x):=by
 cases n <;>
 ·simp only [Pl,← Array.all_toList,List.all_eq_true,decide_eq_true_eq]
  intro c hc
  have:=h c hc
  unfold Lt at this
  omega
theorem Lw.app {x y:Str} (h:Lw x) (k:Lw y):Lw (x ++ y):=fun c hc => by
 rw [ch_app] at hc
 rcases List.mem_append.mp hc with q | q
 ·exact h c q
 ·exact k c q
theorem Lw.cut {x:Str} (h:Lw x) (lo hi:Option Int):Lw (cutS x lo hi):=fun c hc => by
 rw [ch_cut] at hc
 exact h c (List.mem_of_mem_drop (List.mem_of_mem_take hc))
theorem Lw.one {c:Nat} (h:Lt c):Lw ⟨#[c]⟩:=fun d hd => by
 have:d = c:=by simpa [ch] using hd
 subst this; exact h
theorem Lw.nil:Lw ⟨#[]⟩:=fun d hd => by simp [ch] at hd
theorem abc_ch:ch (Str.ofString "abcdefghijklmnopqrstuvwxyz") = List.range' 97 26:=by decide +kernel
theorem abc_len:(Str.ofString "abcdefghijklmnopqrstuvwxyz").length = 26:=by rw [← ch_len,abc_ch]; rfl
theorem abc_mem {c:Nat}:c ∈ (Str.ofString "abcdefghijklmnopqrstuvwxyz").cps.toList↔Lt c:=by
 show c ∈ ch _↔_
 rw [abc_ch,List.mem_range']
 unfold Lt
 constructor
 ·rintro ⟨i,h1,h2⟩; omega
 ·intro h; exact ⟨c - 97,by omega,by omega⟩
theorem abc_at {i:Int} (h0:0 ≤ i) (h:i < 26):∃ c,atI (Str.ofString "abcdefghijklmnopqrstuvwxyz").cps.toList i = some c∧Lt c:=by
 obtain ⟨c,h1,_,h2⟩:=atI_nat (xs:=(Str.ofString "abcdefghijklmnopqrstuvwxyz").cps.toList) h0 (by
  have:=abc_len
  rw [← ch_len] at this
  show i < ((ch _).length:Int)
  omega)
 exact ⟨c,h1,abc_mem.mp h2⟩
theorem empty_str:Str.ofString "" = ⟨#[]⟩:=by decide +kernel
theorem strsP_map:∀ ys:List Str,strsP (ys.map PV.str) = some ys
 | [] => rfl
 | y :: ys => by simp [strsP,strsP_map ys]
theorem inItems_strs (x:Str) (ys:List Str):inItems (.str x) (ys.map PV.str) = some (decide (x ∈ ys)):=by
 unfold inItems
 rw [if_pos (by simp [flatP])]
 simp only [inV,List.map_map]
 congr 1
 induction ys with
 | nil => simp
 | cons y ys ih =>
  simp only [List.map_cons,List.any_cons,Function.comp,flatW,eqV] at ih ⊢
  rw [ih]
  by_cases h:x = y
  ·subst h; simp
  ·have h':(y == x) = false:=by simpa using fun z => h z.symm
   simp [h,h']
theorem inB_strs {S:Sto} {l:Nat} {x:Str} {ys:List Str} (h:S[l]? = some (.lst (ys.map PV.str))):inB (.str x) (.loc l) S = some (decide (x ∈ ys)):=by
 unfold inB
 simp only [h]
 rw [inItems_strs]
theorem inB_char {S:Sto} {c:Nat}:inB (.str ⟨#[c]⟩) (.str (Str.ofString "abcdefghijklmnopqrstuvwxyz")) S = some (decide (Lt c)):=by
 show some (decide (c ∈ (Str.ofString "abcdefghijklmnopqrstuvwxyz").cps.toList)) = _
 simp only [abc_mem]
theorem some_out {α : Type} [DecidableEq α]:∀ {xs us:List α},xs.Nodup→us.length < xs.length→∃ x ∈ xs,x ∉ us
 | [],_,_,h => by simp at h
 | x :: xs,us,nd,h => by
  by_cases hx:x ∈ us
  ·have nd':=List.nodup_cons.mp nd
   obtain ⟨y,hy,hn⟩:=some_out (us:=us.erase x) nd'.2 (by
    rw [List.length_erase_of_mem hx]
    have:=List.length_pos_of_mem hx
    simp at h; omega)
   refine ⟨y,List.mem_cons_of_mem _ hy,fun q => hn ((List.mem_erase_of_ne fun z => nd'.1 (by rw [← z]; exact hy)).mpr q)⟩
  ·exact ⟨x,by simp,hx⟩
theorem cut_le (x:Str) (lo hi:Option Int):(cutS x lo hi).length ≤ x.length:=by
 rw [← ch_len,ch_cut,← ch_len x]
 simp [List.length_take,List.length_drop]
 omega
theorem cut_8 (x:Str):(cutS x none (some 8)).length ≤ 8:=by
 rw [← ch_len,ch_cut]
 have:HT.sIx x.length x.length (some ((8:Nat):Int)) = min 8 x.length:=HT.sIx_nat _ _ 8
 have h:HT.sIx x.length x.length (some 8) ≤ 8:=by
  show HT.sIx x.length x.length (some ((8:Nat):Int)) ≤ 8
  rw [this]; omega
 simp only [List.length_take,List.length_drop]
 omega
theorem len_app (a b:Str):(a ++ b).length = a.length + b.length:=by
 rw [← ch_len,ch_app,List.length_append,ch_len,ch_len]
end PL
namespace PL
open PySem PySem.Spec PyProof.Rows L2
inductive Vl where
 | num (i:Int) | copy (x:Str) | add (x y:Str) | read | clean (x:Str) | call (f:Str) (xs:List Str)
inductive Rw where
 | set (x:Str) (v:Vl) | iff (x:Str) (a b:List Rw) | send (x:Str) | give (x:Str)
abbrev Hd:=Str × List Str
def stL (xs:List Str):List PV:=xs.map PV.str
def Vl.pv:Vl→PV
 | .num i => .tup [.str "num",.int i]
 | .copy x => .tup [.str "copy",.str x]
 | .add x y => .tup [.str "add",.str x,.str y]
 | .read => .tup [.str "read"]
 | .clean x => .tup [.str "clean",.str x]
 | .call f xs => .tup [.str "call",.str f,.tup (stL xs)]
mutual
def Rw.pv:Rw→PV
 | .set x v => .tup [.str "set",.str x,v.pv]
 | .iff x a b => .tup [.str "if",.str x,.tup (Rw.pvs a),.tup (Rw.pvs b)]
 | .send x => .tup [.str "send",.str x]
 | .give x => .tup [.str "give",.str x]
def Rw.pvs:List Rw→List PV
 | [] => []
 | r :: rs => r.pv :: Rw.pvs rs
end
def Vl.ok (ns:List Str) (hs:List Hd):Vl→Prop
 | .num _ => True
 | .copy x => x ∈ ns
 | .add x y => x ∈ ns∧y ∈ ns
 | .read => True
 | .clean x => x ∈ ns
 | .call f xs => (∀ x ∈ xs,x ∈ ns)∧∃ ps,(f,ps) ∈ hs∧xs.length = ps.length
mutual
def Rw.ok (ns:List Str) (hs:List Hd):Rw→Prop
 | .set x v => x ∈ ns∧v.ok ns hs
 | .iff x a b => x ∈ ns∧Rw.oks ns hs a∧Rw.oks ns hs b
 | .send x => x ∈ ns
 | .give x => x ∈ ns
def Rw.oks (ns:List Str) (hs:List Hd):List Rw→Prop
 | [] => True
 | r :: rs => r.ok ns hs∧Rw.oks ns hs rs
end
mutual
def Rw.each:Rw→List Rw
 | .iff x a b => .iff x a b :: (Rw.eachs a ++ Rw.eachs b)
 | .set x v => [.set x v]
 | .send x => [.send x]
 | .give x => [.give x]
def Rw.eachs:List Rw→List Rw
 | [] => []
 | r :: rs => r.each ++ Rw.eachs rs
end
mutual
def Rw.dep:Rw→Nat
 | .iff _ a b => 1 + max (Rw.deps a) (Rw.deps b)
 | _ => 1
def Rw.deps:List Rw→Nat
 | [] => 0
 | r :: rs => max r.dep (Rw.deps rs)
end
def Hd.pv (h:Hd):PV:=.tup [.str h.1,.tup (stL h.2)]
def Vl.asked:Vl→List Str
 | .num _ => []
 | .copy x => [x]
 | .add x y => [x,y]
 | .read => []
 | .clean x => [x]
 | .call _ xs => xs
def Rw.ins:Rw→List Str
 | .set x v => v.asked ++ [x]
 | .iff x _ _ => [x,x]
 | .send x => [x,x]
 | .give x => [x,x]
mutual
theorem each_ok {ns:List Str} {hs:List Hd}:∀ (r:Rw),r.ok ns hs→∀ q ∈ r.each,q.ok ns hs
 | .set x v,h,q,hq => by simp [Rw.each] at hq; subst hq; exact h
 | .send x,h,q,hq => by simp [Rw.each] at hq; subst hq; exact h
 | .give x,h,q,hq => by simp [Rw.each] at hq; subst hq; exact h
 | .iff x a b,h,q,hq => by
  simp only [Rw.each,List.mem_cons,List.mem_append] at hq
  rcases hq with rfl | hq | hq
  ·exact h
  ·exact eachs_ok a h.2.1 q hq
  ·exact eachs_ok b h.2.2 q hq
theorem eachs_ok {ns:List Str} {hs:List Hd}:∀ (rs:List Rw),Rw.oks ns hs rs→∀ q ∈ Rw.eachs rs,q.ok ns hs
 | [],_,q,hq => by simp [Rw.eachs] at hq
 | r :: rs,h,q,hq => by
  simp only [Rw.eachs,List.mem_append] at hq
  rcases hq with hq | hq
  ·exact each_ok r h.1 q hq
  ·exact eachs_ok rs h.2 q hq
end
abbrev Cl:=Str × List Str
def Cl.pv (c:Cl):PV:=.tup [.str c.1,.tup (stL c.2)]
theorem ins_len {ns:List Str} {hs:List Hd} {r:Rw} (h:r.ok ns hs) (hp:∀ h ∈ hs,h.2.length ≤ 4):r.ins.length ≤ 5:=by
 cases r with
 | set x v =>
  cases v with
  | call f xs =>
   obtain ⟨_,ps,h1,h2⟩:=h.2
   have:ps.length ≤ 4:=hp _ h1
   simp [Rw.ins,Vl.asked]; omega
  | _ => simp [Rw.ins,Vl.asked]
 | _ => simp [Rw.ins]
def Hd.kv (h:Hd):Key × PV:=(.inr h.1,.tup (stL h.2))
abbrev Df:=Str × List Str × List Rw
def Df.hd (d:Df):Hd:=(d.1,d.2.1)
def Df.pv (d:Df):PV:=.tup [.str d.1,.tup (stL d.2.1),.tup (Rw.pvs d.2.2)]
structure Hds (hs:List Hd):Prop where
 nd:(hs.map (·.1)).Nodup
 nm:∀ h ∈ hs,Nm h.1
 pd:∀ h ∈ hs,h.2.Nodup
 pn:∀ h ∈ hs,∀ x ∈ h.2,Nm x
 pl:∀ h ∈ hs,h.2.length ≤ 4
 main:((Str.ofString "main",[]):Hd) ∈ hs
 len:hs.length ≤ 6
structure Prg (ds:List Df):Prop where
 hd:Hds (ds.map Df.hd)
 ok:∀ d ∈ ds,∃ ns:List Str,(∀ x ∈ ns,Nm x)∧Rw.oks ns (ds.map Df.hd) d.2.2
 dep:∀ d ∈ ds,Rw.deps d.2.2 ≤ 4
 cnt:∀ d ∈ ds,(Rw.eachs d.2.2).length ≤ 60
@[simp] theorem cut_1 (a:PV) (xs:List PV):cutP (a :: xs) (some 1) none = xs:=by
 unfold cutP
 have:HT.sIx (a :: xs).length 0 (some 1) = 1:=by
  show HT.sIx (a :: xs).length 0 (some ((1:Nat):Int)) = 1
  rw [HT.sIx_nat]
  simp only [List.length_cons]; omega
 rw [this,HT.sIx_none]
 simp
theorem cut_take {xs:List PV} (k:Nat):cutP xs none (some (k:Int)) = xs.take k:=by
 unfold cutP
 rw [HT.sIx_nat,HT.sIx_none]
 simp
end PL
namespace PL
open PySem PySem.Spec PyProof.Rows L2
theorem Keep.step {M M':List Nat} {S S1 S2:Sto} (a:Keep M S S1) (b:Keep M' S1 S2) (h:∀ x ∈ M',x < S.length→x ∈ M):Keep M S S2 :=
 ⟨Nat.le_trans a.1 b.1,fun l hl n => (b.2 l (Nat.lt_of_lt_of_le hl a.1) fun z => n (h l z hl)).trans (a.2 l hl n)⟩
theorem dec_wp {c:Prop} [Decidable c] {P:PV→Sto→Prop} {S:Sto} (h1:c→P (.bl true) S) (h0:¬ c→P (.bl false) S):P (.bl (decide c)) S:=by
 by_cases h:c
 ·simpa [h] using h1 h
 ·simpa [h] using h0 h
theorem accF_wp {α : Type} {P:List PV→Sto→Prop} {R:Str→PV→Sto→Prop} {t:Wk} {g:GM} {st:List PV→En→Sto→Out (List PV)} (i : α→PV) (f : α→List PV) {xs:List α} {acc:List PV} {τ : En} {S:Sto} (hok:∀ S',Keep [] S S'→t.ok S') (hl:acc.length + (xs.flatMap f).length ≤ 16777216)
  (hs:∀ x ∈ xs,∀ (acc:List PV) (S':Sto) (J:List PV→Sto→Prop),acc.length + (f x).length ≤ 16777216→Keep [] S S'→(∀ S'',Keep [] S S''→J (acc ++ f x) S'')→∃ τ1,g (i x) τ = some τ1∧wp (st acc τ1 S') J R)
  (he:∀ S',Keep [] S S'→P (acc ++ xs.flatMap f) S'):wp (accL t g st acc (xs.map i) τ S) P R:=by
 have key:∀ (ys:List α) (acc:List PV) (S':Sto),(∀ x ∈ ys,x ∈ xs)→acc.length + (ys.flatMap f).length ≤ 16777216→Keep [] S S'→(∀ S'',Keep [] S S''→P (acc ++ ys.flatMap f) S'')→wp (accL t g st acc (ys.map i) τ S') P R:=by
  intro ys
  induction ys with
  | nil => intro acc S' _ _ k he; rw [List.map_nil,accL_nil,if_pos (hok _ k)]; simpa using he S' k
  | cons x ys ih =>
   intro acc S' hm hl k he
   simp only [List.flatMap_cons,List.length_append] at hl
   obtain ⟨τ1,h1,h2⟩:=hs x (hm x (by simp)) acc S' (fun a S => wp (accL t g st a (ys.map i) τ S) P R) (by omega) k (fun S'' k'' => ih (acc ++ f x) S'' (fun y hy => hm y (by simp [hy])) (by rw [List.length_append]; omega) k'' (fun S3 k3 => by simpa [List.flatMap_cons] using he S3 k3))
   simp only [List.map_cons,accL,if_pos (hok _ k),h1]
   rw [wp_bnd]
   exact h2
 exact key xs acc S (fun _ h => h) hl .refl he
theorem flatMap_one {α β : Type} (f : α→β):∀ xs:List α,xs.flatMap (fun x => [f x]) = xs.map f
 | [] => rfl
 | x :: xs => by rw [List.flatMap_cons,flatMap_one f xs]; rfl
theorem accK_wp {α : Type} {P:List PV→Sto→Prop} {R:Str→PV→Sto→Prop} {t:Wk} {g:GM} {st:List PV→En→Sto→Out (List PV)} (i : α→PV) (f : α→PV) {xs:List α} {acc:List PV} {τ : En} {S:Sto} (hok:∀ S',Keep [] S S'→t.ok S') (hl:acc.length + xs.length ≤ 16777216)
  (hs:∀ x ∈ xs,∀ (acc:List PV) (S':Sto) (J:List PV→Sto→Prop),acc.length < 16777216→Keep [] S S'→(∀ S'',Keep [] S S''→J (acc ++ [f x]) S'')→∃ τ1,g (i x) τ = some τ1∧wp (st acc τ1 S') J R)
  (he:∀ S',Keep [] S S'→P (acc ++ xs.map f) S'):wp (accL t g st acc (xs.map i) τ S) P R:=by
 have e:xs.flatMap (fun x => [f x]) = xs.map f:=flatMap_one f xs
 refine accF_wp i (fun x => [f x]) hok (by rw [e]; simpa using hl) (fun x hx acc S' J h k => hs x hx acc S' J (by simp at h; omega) k) (fun S' k => by rw [e]; exact he S' k)
theorem len_flatMap_le {α β : Type} {f : α→List β} {c:Nat}:∀ {xs:List α},(∀ x ∈ xs,(f x).length ≤ c)→(xs.flatMap f).length ≤ xs.length * c
 | [],_ => by simp
 | x :: xs,h => by
  have h1:=len_flatMap_le (xs:=xs) (f:=f) (c:=c) fun y hy => h y (by simp [hy])
  have h2:=h x (by simp)
  rw [List.flatMap_cons,List.length_append,List.length_cons,Nat.add_mul]
  omega
theorem boolsP_map {α : Type} (f : α→Bool):∀ xs:List α,boolsP (xs.map fun x => PV.bl (f x)) = some (xs.map f)
 | [] => rfl
 | x :: xs => by simp [boolsP,boolsP_map f xs]
def firstH (hs:List Hd) (f:Str):Option (List Str):=(hs.find? fun h => decide (h.1 = f)).map (·.2)
theorem firstH_app (a b:List Hd) (f:Str):firstH (a ++ b) f = (firstH a f).or (firstH b f):=by
 unfold firstH
 rw [List.find?_append]
 cases a.find? fun h => decide (h.1 = f) <;> simp
theorem firstH_mem {hs:List Hd} {f:Str} {ps:List Str} (nd:(hs.map (·.1)).Nodup) (h:(f,ps) ∈ hs):firstH hs f = some ps:=by
 induction hs with
 | nil => simp at h
 | cons x hs ih =>
  simp only [List.map_cons,List.nodup_cons] at nd
  rcases List.mem_cons.mp h with h | h
  ·subst h; simp [firstH]
  ·have hne:x.1 ≠ f:=fun z => nd.1 (by rw [z]; exact List.mem_map.mpr ⟨(f,ps),h,rfl⟩)
   have:=ih nd.2 h
   simp only [firstH,List.find?_cons,hne,decide_false] at this ⊢
   exact this
structure Oth (od:Nat) (hs:List Hd) (S:Sto):Prop where
 ex:∃ kvs:List (Key × PV),S[od]? = some (.dct kvs)∧kvs.length ≤ hs.length∧∀ f,valP kvs (.inr f) = (firstH hs f).map fun ps => PV.tup (stL ps)
theorem Oth.keep {od:Nat} {hs:List Hd} {S S':Sto} {M:List Nat} (o:Oth od hs S) (k:Keep M S S') (h:od ∉ M):Oth od hs S':=by
 obtain ⟨kvs,h1,h2⟩:=o.ex
 exact ⟨kvs,k.get h1 h,h2⟩
theorem Oth.lt {od:Nat} {hs:List Hd} {S:Sto} (o:Oth od hs S):od < S.length:=by
 obtain ⟨kvs,h1,h2⟩:=o.ex
 exact lt_of_get h1
theorem valP_app (a b:List (Key × PV)) (k:Key):valP (a ++ b) k = (valP a k).or (valP b k):=by
 unfold valP
 rw [List.find?_append]
 cases a.find? fun kv => decide (kv.1 = k) <;> simp
theorem putP_none {kvs:List (Key × PV)} {k:Key} {v:PV} (h:valP kvs k = none):putP kvs k v = kvs ++ [(k,v)]:=by
 unfold putP
 rw [if_neg]
 intro z
 simp only [List.any_eq_true,decide_eq_true_eq] at z
 obtain ⟨x,hx,e⟩:=z
 simp only [valP,Option.map_eq_none_iff,List.find?_eq_none] at h
 exact absurd e (by simpa using h x hx)
def namesL (d:Df):List Str:=(Rw.eachs d.2.2).flatMap Rw.ins ++ d.2.1
end PL
namespace PL
open PySem PySem.Spec PyProof.Rows L2
theorem rngI_0 (n:Nat):rngI 0 (n:Int) = (List.range n).map fun (i:Nat) => PV.int (i:Int):=by
 unfold rngI
 simp
theorem range_split {n i:Nat} {dn rs:List Nat} (h:List.range n = dn ++ i :: rs):i = dn.length∧i < n:=by
 have h1:(List.range n)[dn.length]? = some i:=by rw [h]; simp
 have hl:dn.length < n:=by
  have:=congrArg List.length h
  simp at this; omega
 rw [List.getElem?_range hl] at h1
 cases h1
 exact ⟨rfl,hl⟩
theorem forR_wp {N:En→Sto→Prop} {T:PV→Sto→Prop} {R:Str→PV→En→Sto→Prop} {t:Wk} {g:GM} {b:SM} {n:Nat} (Inv:Nat→En→Sto→Prop) {τ : En} {S:Sto} (h0:Inv 0 τ S)
  (hs:∀ i τ S (J:En→Sto→Prop),i < n→Inv i τ S→(∀ τ' S',Inv (i + 1) τ' S'→J τ' S')→t.ok S∧∃ τ1,g (.int (i:Int)) τ = some τ1∧wpS (b τ1 S) J T R)
  (he:∀ τ S,Inv n τ S→t.ok S∧N τ S):wpS (forL t g b (rngI 0 (n:Int)) τ S) N T R:=by
 rw [rngI_0]
 refine forM_wp (fun (i:Nat) => PV.int (i:Int)) (fun dn τ S => Inv dn.length τ S) h0 ?_ ?_
 ·intro dn x rs τ S J e h hJ
  obtain ⟨rfl,hl⟩:=range_split e
  exact hs _ τ S J hl h fun τ' S' k => hJ τ' S' (by simpa using k)
 ·intro τ S h
  exact he τ S (by simpa using h)
mutual
def Sn (S:Sto):PV→PV→Prop
 | .non,p => p = .non
 | .bl b,p => p = .bl b
 | .int i,p => p = .int i
 | .str x,p => p = .str x
 | .tup ds,p => ∃ ps,p = .tup ps∧SnL S ds ps
 | .fls ds,p => ∃ l ps,p = .loc l∧S[l]? = some (.lst ps)∧SnL S ds ps
 | .loc _,_ => False
 | .fn _ _ _,_ => False
def SnL (S:Sto):List PV→List PV→Prop
 | [],ps => ps = []
 | d :: ds,ps => ∃ q qs,ps = q :: qs∧Sn S d q∧SnL S ds qs
end
mutual
def AD:Nat→PV→Prop
 | _,.non => True
 | _,.bl _ => True
 | _,.int _ => True
 | _,.str _ => True
 | 0,_ => False
 | n + 1,.tup xs => xs.length ≤ 16777216∧ADL n xs
 | n + 1,.fls xs => xs.length ≤ 16777216∧ADL n xs
 | _,_ => False
def ADL:Nat→List PV→Prop
 | _,[] => True
 | n,x :: xs => AD n x∧ADL n xs
end
theorem ADL_iff {n:Nat}:∀ {xs:List PV},ADL n xs↔∀ x ∈ xs,AD n x
 | [] => by simp [ADL]
 | x :: xs => by simp [ADL,ADL_iff (xs:=xs)]
theorem SnL.length {S:Sto}:∀ {ds ps:List PV},SnL S ds ps→ps.length = ds.length
 | [],ps,h => by have h:ps = []:=h; subst h; rfl
 | d :: ds,ps,h => by
  obtain ⟨q,qs,rfl,_,h2⟩:=h
  simp [SnL.length h2]
theorem SnL.get {S:Sto}:∀ {ds ps:List PV} {i:Nat} {p:PV},SnL S ds ps→ps[i]? = some p→∃ d,ds[i]? = some d∧Sn S d p
 | [],ps,i,p,h,e => by have h:ps = []:=h; subst h; simp at e
 | d :: ds,ps,0,p,h,e => by
  obtain ⟨q,qs,rfl,h1,h2⟩:=h
  simp at e; subst e
  exact ⟨d,rfl,h1⟩
 | d :: ds,ps,i + 1,p,h,e => by
  obtain ⟨q,qs,rfl,h1,h2⟩:=h
  obtain ⟨d',e1,e2⟩:=SnL.get (i:=i) h2 (by simpa using e)
  exact ⟨d',by simpa using e1,e2⟩
mutual
theorem Sn.keep {S S':Sto} (k:Keep [] S S'):∀ (d p:PV),Sn S d p→Sn S' d p
 | .non,_,h => h
 | .bl _,_,h => h
 | .int _,_,h => h
 | .str _,_,h => h
 | .tup ds,p,h => by
  obtain ⟨ps,h1,h2⟩:=h
  exact ⟨ps,h1,SnL.keep k ds ps h2⟩
 | .fls ds,p,h => by
  obtain ⟨l,ps,h1,h2,h3⟩:=h
  exact ⟨l,ps,h1,k.get h2 (by simp),SnL.keep k ds ps h3⟩
 | .loc _,_,h => h
 | .fn _ _ _,_,h => h
theorem SnL.keep {S S':Sto} (k:Keep [] S S'):∀ (ds ps:List PV),SnL S ds ps→SnL S' ds ps
 | [],_,h => h
 | d :: ds,ps,h => by
  obtain ⟨q,qs,h1,h2,h3⟩:=h
  exact ⟨q,qs,h1,Sn.keep k d q h2,SnL.keep k ds qs h3⟩
end
mutual
theorem Pl.sn {S:Sto}:∀ (n:Nat) (p:PV),Pl n p→Sn S p p
 | _,.non,_ => rfl
 | _,.int _,_ => rfl
 | _,.str _,_ => rfl
 | 0,.tup _,h => by simp [Pl] at h
 | n + 1,.tup xs,h => ⟨xs,rfl,PlL.sn n xs (by simpa [Pl] using h)⟩
 | n,.bl _,h => by cases n <;> simp [Pl] at h
 | n,.fls _,h => by cases n <;> simp [Pl] at h
 | n,.loc _,h => by cases n <;> simp [Pl] at h
 | n,.fn _ _ _,h => by cases n <;> simp [Pl] at h
theorem PlL.sn {S:Sto}:∀ (n:Nat) (xs:List PV),PlL n xs→SnL S xs xs
 | _,[],_ => rfl
 | n,x :: xs,h => by
  have h':Pl n x∧PlL n xs:=by simpa [PlL] using h
  exact ⟨x,xs,rfl,Pl.sn n x h'.1,PlL.sn n xs h'.2⟩
end
theorem atI_get {β : Type} {xs:List β} {i:Nat} (h:i < xs.length):atI xs (i:Int) = xs[i]?:=by
 unfold atI ixN
 simp [show ((i:Int) < xs.length) by omega]
@[simp] theorem isi_bool_non {S:Sto}:isiP "bool" .non S = some false:=by rfl
@[simp] theorem isi_int_non {S:Sto}:isiP "int" .non S = some false:=by rfl
@[simp] theorem isi_str_non {S:Sto}:isiP "str" .non S = some false:=by rfl
@[simp] theorem isi_list_non {S:Sto}:isiP "list" .non S = some false:=by rfl
@[simp] theorem isi_tuple_non {S:Sto}:isiP "tuple" .non S = some false:=by rfl
theorem Oth.put {od:Nat} {hs:List Hd} {S:Sto} {f:Str} {ps:List Str} (o:Oth od hs S) (hl:hs.length < 1000) :
  ∃ kvs:List (Key × PV),S[od]? = some (.dct kvs)∧kvs.length < 16777216∧(∀ v,valP kvs (.inr f) = some v→Oth od (hs ++ [(f,ps)]) S)∧(valP kvs (.inr f) = none→Oth od (hs ++ [(f,ps)]) (S.set od (.dct (putP kvs (.inr f) (.tup (stL ps)))))):=by
 obtain ⟨kvs,h1,h2,h3⟩:=o.ex
 refine ⟨kvs,h1,by omega,fun v hv => ⟨kvs,h1,by simp; omega,fun g => ?_⟩,fun hv => ⟨_,set_get h1,by rw [putP_none hv]; simp; omega,fun g => ?_⟩⟩
 ·rw [firstH_app,h3 g]
  by_cases hg:g = f
  ·subst hg
   rw [h3 g] at hv
   cases q:firstH hs g with
   | none => rw [q] at hv; simp at hv
   | some ps => simp
  ·have:firstH [(f,ps)] g = none:=by simp [firstH,Ne.symm hg]
   rw [this]; simp
 ·rw [putP_none hv,valP_app,firstH_app,h3 g]
  by_cases hg:g = f
  ·subst hg
   rw [h3 g] at hv
   cases q:firstH hs g with
   | none => simp [valP,firstH]
   | some ps => rw [q] at hv; simp at hv
  ·have h1:firstH [(f,ps)] g = none:=by simp [firstH,Ne.symm hg]
   have h2:valP [((.inr f:Key),PV.tup (stL ps))] (.inr g) = none:=by simp [valP,Ne.symm hg]
   rw [h1,h2]; simp
end PL
namespace PL
open PySem PySem.Spec PyProof.Rows L2
@[simp] theorem ofS_beq (a b:String):(Str.ofString a == Str.ofString b) = (a == b):=by
 by_cases h:a = b
 ·simp [h]
 ·have h1:Str.ofString a ≠ Str.ofString b:=fun z => h (ofString_inj.mp z)
  have e1:(Str.ofString a == Str.ofString b) = false:=by simpa using h1
  have e2:(a == b) = false:=by simpa using h
  rw [e1,e2]
def PrgAt (l:Nat) (ds:List Df) (S:Sto):Prop:=∃ n,S[l]? = some (.ins "Program" [(Str.ofString "definitions_kept",.loc n)])∧S[n]? = some (.lst (ds.map Df.pv))
theorem PrgAt.keep {l:Nat} {ds:List Df} {S S':Sto} (p:PrgAt l ds S) (k:Keep [] S S'):PrgAt l ds S':=by
 obtain ⟨n,h1,h2⟩:=p
 exact ⟨n,k.get h1 (by simp),k.get h2 (by simp)⟩
theorem Lw.ok {x:Str} (h:Lw x):x.cps.all (· < 0x110000) = true:=by
 have:=h.plain 0
 simpa [Pl] using this
def Fair (x:Str):Prop:=x.cps.all (· < 0x110000) = true
theorem Fair.pl {x:Str} (h:Fair x) (n:Nat):Pl n (.str x):=by cases n <;> exact h
theorem Nm.fair {x:Str} (h:Nm x):Fair x:=h.l.ok
theorem fairL {n:Nat} {xs:List Str} (h:∀ x ∈ xs,Fair x):PlL n (stL xs):=PlL_iff.mpr fun p hp => by
 obtain ⟨x,hx,rfl⟩:=List.mem_map.mp hp
 exact (h x hx).pl n
theorem ofS_fair (s:String) (h:(Str.ofString s).cps.all (· < 0x110000) = true:=by decide +kernel):Fair (Str.ofString s):=h
def Vl.fair:Vl→Prop
 | .num _ => True
 | .copy x => Fair x
 | .add x y => Fair x∧Fair y
 | .read => True
 | .clean x => Fair x
 | .call f xs => Fair f∧∀ x ∈ xs,Fair x
mutual
def Rw.fair:Rw→Prop
 | .set x v => Fair x∧v.fair
 | .iff x a b => Fair x∧Rw.fairs a∧Rw.fairs b
 | .send x => Fair x
 | .give x => Fair x
def Rw.fairs:List Rw→Prop
 | [] => True
 | r :: rs => r.fair∧Rw.fairs rs
end
theorem Vl.pl {v:Vl} (h:v.fair):Pl 2 v.pv:=by
 cases v with
 | num i => simp only [Vl.pv,Pl,PlL]; exact ⟨ofS_fair "num",trivial,trivial⟩
 | read => simp only [Vl.pv,Pl,PlL]; exact ⟨ofS_fair "read",trivial⟩
 | copy x => simp only [Vl.pv,Pl,PlL]; exact ⟨ofS_fair "copy",h,trivial⟩
 | clean x => simp only [Vl.pv,Pl,PlL]; exact ⟨ofS_fair "clean",h,trivial⟩
 | add x y => simp only [Vl.pv,Pl,PlL]; exact ⟨ofS_fair "add",h.1,h.2,trivial⟩
 | call f xs => simp only [Vl.pv,Pl,PlL]; exact ⟨ofS_fair "call",h.1,fairL h.2,trivial⟩
theorem PlL.le {n m:Nat} {xs:List PV} (h:PlL n xs) (k:n ≤ m):PlL m xs:=PlL_iff.mpr fun x hx => (PlL_iff.mp h x hx).le k
mutual
theorem Rw.pl:∀ {r:Rw},r.fair→∀ n,2 * r.dep + 1 ≤ n→Pl n r.pv
 | .set x v,h,n,hn => by
  simp only [Rw.dep] at hn
  obtain ⟨n,rfl⟩:∃ m,n = m + 3:=⟨n - 3,by omega⟩
  simp only [Rw.pv,Pl,PlL]
  exact ⟨ofS_fair "set",h.1,(Vl.pl h.2).le (by omega),trivial⟩
 | .send x,h,n,hn => by
  simp only [Rw.dep] at hn
  obtain ⟨n,rfl⟩:∃ m,n = m + 3:=⟨n - 3,by omega⟩
  simp only [Rw.pv,Pl,PlL]
  exact ⟨ofS_fair "send",h,trivial⟩
 | .give x,h,n,hn => by
  simp only [Rw.dep] at hn
  obtain ⟨n,rfl⟩:∃ m,n = m + 3:=⟨n - 3,by omega⟩
  simp only [Rw.pv,Pl,PlL]
  exact ⟨ofS_fair "give",h,trivial⟩
 | .iff x a b,h,n,hn => by
  simp only [Rw.dep] at hn
  obtain ⟨n,rfl⟩:∃ m,n = m + 3:=⟨n - 3,by omega⟩
  simp only [Rw.pv,Pl,PlL]
  exact ⟨ofS_fair "if",h.1,Rw.pls h.2.1 _ (by omega),Rw.pls h.2.2 _ (by omega),trivial⟩
theorem Rw.pls:∀ {rs:List Rw},Rw.fairs rs→∀ n,2 * Rw.deps rs + 1 ≤ n→PlL n (Rw.pvs rs)
 | [],_,n,_ => by simp [Rw.pvs,PlL]
 | r :: rs,h,n,hn => by
  simp only [Rw.deps] at hn
  exact ⟨Rw.pl h.1 n (by omega),Rw.pls h.2 n (by omega)⟩
end
theorem Vl.fair_of {ns:List Str} {hs:List Hd} {v:Vl} (hn:∀ x ∈ ns,Fair x) (hh:∀ h ∈ hs,Fair h.1) (h:v.ok ns hs):v.fair:=by
 cases v with
 | num i => trivial
 | read => trivial
 | copy x => exact hn x h
 | clean x => exact hn x h
 | add x y => exact ⟨hn x h.1,hn y h.2⟩
 | call f xs => obtain ⟨h1,ps,h2,_⟩:=h; exact ⟨hh _ h2,fun x hx => hn x (h1 x hx)⟩
mutual
theorem Rw.fair_of {ns:List Str} {hs:List Hd} (hn:∀ x ∈ ns,Fair x) (hh:∀ h ∈ hs,Fair h.1):∀ {r:Rw},r.ok ns hs→r.fair
 | .set x v,h => ⟨hn x h.1,Vl.fair_of hn hh h.2⟩
 | .send x,h => hn x h
 | .give x,h => hn x h
 | .iff x a b,h => ⟨hn x h.1,Rw.fairs_of hn hh h.2.1,Rw.fairs_of hn hh h.2.2⟩
theorem Rw.fairs_of {ns:List Str} {hs:List Hd} (hn:∀ x ∈ ns,Fair x) (hh:∀ h ∈ hs,Fair h.1):∀ {rs:List Rw},Rw.oks ns hs rs→Rw.fairs rs
 | [],_ => trivial
 | r :: rs,h => ⟨Rw.fair_of hn hh h.1,Rw.fairs_of hn hh h.2⟩
end
def Df.fair (d:Df):Prop:=Fair d.1∧(∀ x ∈ d.2.1,Fair x)∧Rw.fairs d.2.2
theorem Df.pl {d:Df} (h:d.fair) {n:Nat} (hn:2 * Rw.deps d.2.2 + 3 ≤ n):Pl n d.pv:=by
 obtain ⟨n,rfl⟩:∃ m,n = m + 2:=⟨n - 2,by omega⟩
 simp only [Df.pv,Pl,PlL]
 exact ⟨h.1,fairL h.2.1,Rw.pls h.2.2 _ (by omega),trivial⟩
theorem Prg.fair {ds:List Df} (p:Prg ds):∀ d ∈ ds,d.fair:=by
 intro d hd
 have hh:d.hd ∈ ds.map Df.hd:=List.mem_map.mpr ⟨d,hd,rfl⟩
 obtain ⟨ns,h1,h2⟩:=p.ok d hd
 exact ⟨(p.hd.nm _ hh).fair,fun x hx => (p.hd.pn _ hh x hx).fair,Rw.fairs_of (fun x hx => (h1 x hx).fair) (fun h hm => (p.hd.nm h hm).fair) h2⟩
theorem dfs_pl {ds:List Df} {n m:Nat} (hf:∀ d ∈ ds,d.fair) (hd:∀ d ∈ ds,Rw.deps d.2.2 ≤ m) (hn:2 * m + 3 ≤ n):PlL n (ds.map Df.pv):=PlL_iff.mpr fun p hp => by
 obtain ⟨d,hm,rfl⟩:=List.mem_map.mp hp
 have:=hd d hm
 exact Df.pl (hf d hm) (by omega)
mutual
def Wd:Nat→PV→Prop
 | m,.tup xs => xs.length ≤ m∧WdL m xs
 | m,.fls xs => xs.length ≤ m∧WdL m xs
 | _,_ => True
def WdL:Nat→List PV→Prop
 | _,[] => True
 | m,x :: xs => Wd m x∧WdL m xs
end
mutual
theorem Pl.ad:∀ (n:Nat) (p:PV),Pl n p→Wd 16777216 p→AD n p
 | _,.non,_,_ => by simp [AD]
 | _,.int _,_,_ => by simp [AD]
 | _,.str _,_,_ => by simp [AD]
 | 0,.tup _,h,_ => by simp [Pl] at h
 | n + 1,.tup xs,h,w => by
  have w:xs.length ≤ 16777216∧WdL 16777216 xs:=w
  exact ⟨w.1,PlL.ad n xs h w.2⟩
 | n,.bl _,h,_ => by cases n <;> simp [Pl] at h
 | n,.fls _,h,_ => by cases n <;> simp [Pl] at h
 | n,.loc _,h,_ => by cases n <;> simp [Pl] at h
 | n,.fn _ _ _,h,_ => by cases n <;> simp [Pl] at h
theorem PlL.ad:∀ (n:Nat) (xs:List PV),PlL n xs→WdL 16777216 xs→ADL n xs
 | _,[],_,_ => by simp [ADL]
 | n,x :: xs,h,w => by
  have h':Pl n x∧PlL n xs:=h
  have w':Wd 16777216 x∧WdL 16777216 xs:=w
  exact ⟨Pl.ad n x h'.1 w'.1,PlL.ad n xs h'.2 w'.2⟩
end
theorem Prg.main {ds:List Df} (p:Prg ds):firstH (ds.map Df.hd) (Str.ofString "main") = some []:=firstH_mem p.hd.nd p.hd.main
theorem Prg.nd {ds:List Df} (p:Prg ds):(ds.map (·.1)).Nodup:=by
 have:=p.hd.nd
 rw [List.map_map] at this
 exact this
end PL
namespace PL
open PySem PySem.Spec PyProof.Rows L2
section
variable {P:PV→Sto→Prop} {R:Str→PV→Sto→Prop} {S:Sto} {xs:List PV} {kvs:List (Key × PV)} {l:Nat}
theorem dictL_wp (h1:S[l]? = some (.lst xs)) (h2:pairsP xs = some kvs) (h:∀ n S',S'[n]? = some (.dct (mergeP [] kvs))→Keep [] S S'→S.length ≤ n→P (.loc n) S'):wp (lift (dictLP (.loc l) S)) P R:=by
 unfold dictLP
 simp only [h1,h2,Option.map_some,lift_some,wp_ok]
 exact alloc_wp h
end
theorem pairsP_map {α : Type} (f : α→Str) (g : α→PV):∀ xs:List α,pairsP (xs.map fun x => .tup [.str (f x),g x]) = some (xs.map fun x => ((.inr (f x):Key),g x))
 | [] => rfl
 | x :: xs => by simp [pairsP,pairP,keyP,pairsP_map f g xs]
theorem mergeP_nd:∀ (more acc:List (Key × PV)),((acc ++ more).map (·.1)).Nodup→mergeP acc more = acc ++ more
 | [],acc,_ => by simp [mergeP]
 | (k,v) :: more,acc,h => by
  have hn:valP acc k = none:=by
   simp only [valP,Option.map_eq_none_iff,List.find?_eq_none,decide_eq_true_eq]
   intro x hx e
   rw [List.map_append,List.map_cons] at h
   exact (List.nodup_append.mp h).2.2 x.1 (List.mem_map.mpr ⟨x,hx,rfl⟩) k (by simp) e
  show mergeP (putP acc k v) more = _
  rw [putP_none hn,mergeP_nd more (acc ++ [(k,v)]) (by simpa using h)]
  simp
theorem valP_map {α : Type} (f : α→Str) (g : α→PV) (x:Str):∀ xs:List α,valP (xs.map fun y => ((.inr (f y):Key),g y)) (.inr x) = (xs.find? fun y => decide (f y = x)).map g
 | [] => rfl
 | y :: ys => by
  have ih:=valP_map f g x ys
  simp only [valP,List.map_cons,List.find?_cons] at ih ⊢
  by_cases h:f y = x
  ·simp [h]
  ·have h1:decide ((Sum.inr (f y):Key) = Sum.inr x) = false:=by simpa using h
   have h2:decide (f y = x) = false:=by simpa using h
   rw [h1,h2]
   exact ih
@[simp] theorem intP_bl (b:Bool) (S:Sto):intP (.bl b) S = some (.int (if b then 1 else 0),S):=(rfl)
def PlB (n:Nat) (p:PV):Prop:=Pl n p ∨ ∃ b,p = .bl b
theorem PlB.toD {n:Nat} {p:PV} (h:PlB n p):∃ d,toD p = some d∧d.canLay0 = true∧d.depth ≤ n:=by
 rcases h with h | ⟨b,rfl⟩
 ·exact Pl.toD n p h
 ·exact ⟨_,rfl,rfl,Nat.zero_le _⟩
theorem PlB.toDL {n:Nat}:∀ {xs:List PV},(∀ x ∈ xs,PlB n x)→∃ ds,PL.toDL xs = some ds∧PyData.canLayAll0 ds = true∧PyData.depthAll ds ≤ n∧ds.length = xs.length
 | [],_ => ⟨[],rfl,rfl,Nat.zero_le _,rfl⟩
 | x :: xs,h => by
  obtain ⟨d,h1,h2,h3⟩:=(h x (by simp)).toD
  obtain ⟨ds,h4,h5,h6,h7⟩:=PlB.toDL (xs:=xs) fun y hy => h y (by simp [hy])
  exact ⟨d :: ds,by simp [PL.toDL,h1,h4],by simp [PyData.canLayAll0,h2,h5],by show max d.depth (PyData.depthAll ds) ≤ n; omega,by simp [h7]⟩
end PL
namespace PL
open PySem PySem.Spec PyProof.Rows L2
def Vl.All (p:Str→Prop):Vl→Prop
 | .num _ => True
 | .copy x => p x
 | .add x y => p x∧p y
 | .read => True
 | .clean x => p x
 | .call g xs => p g∧∀ x ∈ xs,p x
mutual
def Rw.All (p:Str→Prop):Rw→Prop
 | .set x v => p x∧v.All p
 | .iff x a b => p x∧Rw.Alls p a∧Rw.Alls p b
 | .send x => p x
 | .give x => p x
def Rw.Alls (p:Str→Prop):List Rw→Prop
 | [] => True
 | r :: rs => r.All p∧Rw.Alls p rs
end
theorem Vl.All_of {p:Str→Prop} {ns:List Str} {hs:List Hd} {v:Vl} (hn:∀ x ∈ ns,p x) (hh:∀ h ∈ hs,p h.1) (h:v.ok ns hs):v.All p:=by
 cases v with
 | num i => trivial
 | read => trivial
 | copy x => exact hn x h
 | clean x => exact hn x h
 | add x y => exact ⟨hn x h.1,hn y h.2⟩
 | call f xs => obtain ⟨h1,ps,h2,_⟩:=h; exact ⟨hh _ h2,fun x hx => hn x (h1 x hx)⟩
mutual
theorem Rw.All_of {p:Str→Prop} {ns:List Str} {hs:List Hd} (hn:∀ x ∈ ns,p x) (hh:∀ h ∈ hs,p h.1):∀ {r:Rw},r.ok ns hs→r.All p
 | .set x v,h => ⟨hn x h.1,Vl.All_of hn hh h.2⟩
 | .send x,h => hn x h
 | .give x,h => hn x h
 | .iff x a b,h => ⟨hn x h.1,Rw.Alls_of hn hh h.2.1,Rw.Alls_of hn hh h.2.2⟩
theorem Rw.Alls_of {p:Str→Prop} {ns:List Str} {hs:List Hd} (hn:∀ x ∈ ns,p x) (hh:∀ h ∈ hs,p h.1):∀ {rs:List Rw},Rw.oks ns hs rs→Rw.Alls p rs
 | [],_ => trivial
 | r :: rs,h => ⟨Rw.All_of hn hh h.1,Rw.Alls_of hn hh h.2⟩
end
mutual
theorem Rw.All_fair:∀ {r:Rw},r.All Nm→r.fair
 | .set x v,h => ⟨h.1.fair,by
   have:=h.2
   cases v with
   | num i => trivial
   | read => trivial
   | copy x => exact Nm.fair this
   | clean x => exact Nm.fair this
   | add x y => exact ⟨this.1.fair,this.2.fair⟩
   | call f xs => exact ⟨this.1.fair,fun x hx => (this.2 x hx).fair⟩⟩
 | .send x,h => Nm.fair h
 | .give x,h => Nm.fair h
 | .iff x a b,h => ⟨h.1.fair,Rw.Alls_fair h.2.1,Rw.Alls_fair h.2.2⟩
theorem Rw.Alls_fair:∀ {rs:List Rw},Rw.Alls Nm rs→Rw.fairs rs
 | [],_ => trivial
 | r :: rs,h => ⟨Rw.All_fair h.1,Rw.Alls_fair h.2⟩
end
mutual
theorem each_All {p:Str→Prop}:∀ (r:Rw),r.All p→∀ q ∈ r.each,q.All p
 | .set x v,h,q,hq => by simp [Rw.each] at hq; subst hq; exact h
 | .send x,h,q,hq => by simp [Rw.each] at hq; subst hq; exact h
 | .give x,h,q,hq => by simp [Rw.each] at hq; subst hq; exact h
 | .iff x a b,h,q,hq => by
  simp only [Rw.each,List.mem_cons,List.mem_append] at hq
  rcases hq with rfl | hq | hq
  ·exact h
  ·exact eachs_All a h.2.1 q hq
  ·exact eachs_All b h.2.2 q hq
theorem eachs_All {p:Str→Prop}:∀ (rs:List Rw),Rw.Alls p rs→∀ q ∈ Rw.eachs rs,q.All p
 | [],_,q,hq => by simp [Rw.eachs] at hq
 | r :: rs,h,q,hq => by
  simp only [Rw.eachs,List.mem_append] at hq
  rcases hq with hq | hq
  ·exact each_All r h.1 q hq
  ·exact eachs_All rs h.2 q hq
end
theorem ins_All {p:Str→Prop} {r:Rw} (h:r.All p):∀ x ∈ r.ins,p x:=by
 intro y hy
 cases r with
 | set x v =>
  simp only [Rw.ins,List.mem_append,List.mem_singleton] at hy
  rcases hy with hy | rfl
  ·have h2:=h.2
   cases v with
   | num _ => simp [Vl.asked] at hy
   | read => simp [Vl.asked] at hy
   | copy z => simp [Vl.asked] at hy; subst hy; exact h2
   | clean z => simp [Vl.asked] at hy; subst hy; exact h2
   | add z w => simp [Vl.asked] at hy; rcases hy with rfl | rfl; exact h2.1; exact h2.2
   | call f xs => exact h2.2 y hy
  ·exact h.1
 | iff x a b => simp [Rw.ins] at hy; subst hy; exact h.1
 | send x => simp [Rw.ins] at hy; subst hy; exact h
 | give x => simp [Rw.ins] at hy; subst hy; exact h
structure NP (ds:List Df):Prop where
 nd:(ds.map (·.1)).Nodup
 nm:∀ d ∈ ds,Nm d.1∧(∀ x ∈ d.2.1,Nm x)∧Rw.Alls Nm d.2.2
 len:ds.length ≤ 6
 dep:∀ d ∈ ds,Rw.deps d.2.2 ≤ 4
 cnt:∀ d ∈ ds,(Rw.eachs d.2.2).length ≤ 60
 par:∀ d ∈ ds,d.2.1.length ≤ 4
 ins:∀ d ∈ ds,∀ r ∈ Rw.eachs d.2.2,r.ins.length ≤ 5
theorem Prg.np {ds:List Df} (p:Prg ds):NP ds where
 nd:=p.nd
 nm:=fun d hd => by
  have hh:d.hd ∈ ds.map Df.hd:=List.mem_map.mpr ⟨d,hd,rfl⟩
  obtain ⟨ns,h1,h2⟩:=p.ok d hd
  exact ⟨p.hd.nm _ hh,p.hd.pn _ hh,Rw.Alls_of h1 p.hd.nm h2⟩
 len:=by have:=p.hd.len; simpa using this
 dep:=p.dep
 cnt:=p.cnt
 par:=fun d hd => p.hd.pl d.hd (List.mem_map.mpr ⟨d,hd,rfl⟩)
 ins:=fun d hd r hr => by
  obtain ⟨ns,h1,h2⟩:=p.ok d hd
  exact ins_len (eachs_ok _ h2 r hr) p.hd.pl
theorem NP.names {ds:List Df} (p:NP ds):∀ d ∈ ds,∀ x ∈ namesL d,Nm x:=by
 intro d hd x hx
 rcases List.mem_append.mp hx with hx | hx
 ·obtain ⟨r,hr,hx⟩:=List.mem_flatMap.mp hx
  exact ins_All (eachs_All _ (p.nm d hd).2.2 r hr) x hx
 ·exact (p.nm d hd).2.1 x hx
theorem NP.fair {ds:List Df} (p:NP ds):∀ d ∈ ds,d.fair:=fun d hd => ⟨(p.nm d hd).1.fair,fun x hx => ((p.nm d hd).2.1 x hx).fair,Rw.Alls_fair (p.nm d hd).2.2⟩
theorem NP.sub {ds es:List Df} (p:NP ds) (h:es.Sublist ds):NP es where
 nd:=(h.map (·.1)).nodup p.nd
 nm:=fun d hd => p.nm d (h.subset hd)
 len:=Nat.le_trans h.length_le p.len
 dep:=fun d hd => p.dep d (h.subset hd)
 cnt:=fun d hd => p.cnt d (h.subset hd)
 par:=fun d hd => p.par d (h.subset hd)
 ins:=fun d hd => p.ins d (h.subset hd)
theorem cut_drop {xs:List PV} (k:Nat):cutP xs (some (k:Int)) none = xs.drop k:=by
 unfold cutP
 rw [HT.sIx_nat,HT.sIx_none]
 rcases Nat.le_total k xs.length with h | h
 ·rw [Nat.min_eq_left h,List.take_of_length_le (by simp)]
 ·rw [Nat.min_eq_right h,List.drop_of_length_le (Nat.le_refl _),List.drop_of_length_le h]; simp
end PL
namespace PL
open PySem PySem.Spec PyProof.Rows L2
section
variable {prog:Program} {w:World} {A:Around} {E:Value→Shared→Prop} {s:Shared} {K:PySem.W.Frag} {x C L f:Addr} {ox:Obj} {od:Option Obj} {b tb:Value} {h₀ : Heap} {m:Str→Option Value}
end

section
variable {X:Cx} {W:WX} {a b:Expr} {ma mb:EM PV} {pos:Pos} {C:Str} {F:FM} {Ca fa:Addr} {fd:FuncData} {ps:List Str} {k:Nat}
end
section
open HT
variable {prog:Program} {w:World} {A:Around} {E:Value→Shared→Prop} {s:Shared}
end
section
variable {X:Cx} {W:WX} {e:Expr} {ma:EM PV} {pos:Pos}
end
section
variable {X:Cx} {W:WX} {a b:Expr} {ma mb:EM PV} {pos:Pos} {C:Str} {F:FM} {Ca fa:Addr} {fd:FuncData} {ps:List Str} {k:Nat}
end
section
open AutoSeq1 (wpAny_loadPart')
open MeetsSeq MeetsSeq2 MeetsSeq3 SeqRoads2
variable {prog:Program} {w:World} {A:Around} {E:Value→Shared→Prop} {s:Shared} {l:Addr} {u v:Value}
end
section
variable {X:Cx} {W:WX} {a b:Expr} {ma mb:EM PV} {pos:Pos} {C:Str} {F:FM} {Ca fa:Addr} {fd:FuncData} {ps:List Str} {k:Nat}
end
end PL
namespace PL
open PySem PySem.Spec PyProof.Rows L2
section
variable {P:PV→Sto→Prop} {R:Str→PV→Sto→Prop} {S:Sto} {xs:List PV} {l:Nat} {τ : En}
end
end PL
namespace PLK2
open PySem PySem.HandSPX
open Sem (wp)
open Builtin
section
variable {prog:Program} {w:World} {A:Around} {E:Value→Shared→Prop} {R:Result→Shared→Prop} {h:Heap} {g:Array GenState} {d:Drawn} {t:Nat} {os:OsState}
variable {nm q:Str} {C N:Addr} {bs bm bmB:List Value} {hdct:Bool} {sn:List Str} {sub:List Value} {ab:Bool} {col:Option Bool} {dd:Option Addr} {k0 k1 k2 k3 k5:Option Value} {B newId initId:String} {n1:Str} {v1:Value}
end
end PLK2
namespace PL
open PySem PySem.Spec PyProof.Rows L2
section
variable {X:Cx} {W:WX} {e:Expr} {ma:EM PV} {p pos pos':Pos}
end
end PL
namespace PL
open PySem PySem.Spec PyProof.Rows L2
section
variable {X:Cx}
end
section
variable {X:Cx} {W:WX} {o e:Expr} {es:List Expr} {mo:EM PV} {mas:EM (List PV)} {apos cpos:Pos}
end
end PL
namespace PL
open PySem PySem.Spec PyProof.Rows L2
end PL
namespace PL
open PySem PySem.Spec PyProof.Rows L2
def Sm (x:Str):Prop:=Fair x∧x.length ≤ 9
theorem Nm.sm {x:Str} (h:Nm x):Sm x:=⟨h.fair,by have:=h.q; omega⟩
mutual
theorem Rw.All_fairs {p:Str→Prop} (hp:∀ x,p x→Fair x):∀ {r:Rw},r.All p→r.fair
 | .set x v,h => by
  refine ⟨hp x h.1,?_⟩
  have:=h.2
  cases v <;> simp only [Vl.All,Vl.fair] at this ⊢
  ·exact hp _ this
  ·exact ⟨hp _ this.1,hp _ this.2⟩
  ·exact hp _ this
  ·exact ⟨hp _ this.1,fun y hy => hp y (this.2 y hy)⟩
 | .iff x a b,h => ⟨hp x h.1,Rw.Alls_fairs hp h.2.1,Rw.Alls_fairs hp h.2.2⟩
 | .send x,h => hp x h
 | .give x,h => hp x h
theorem Rw.Alls_fairs {p:Str→Prop} (hp:∀ x,p x→Fair x):∀ {rs:List Rw},Rw.Alls p rs→Rw.fairs rs
 | [],_ => trivial
 | r :: rs,h => ⟨Rw.All_fairs hp h.1,Rw.Alls_fairs hp h.2⟩
end
mutual
theorem Rw.All_mono {p q:Str→Prop} (hp:∀ x,p x→q x):∀ {r:Rw},r.All p→r.All q
 | .set x v,h => by
  refine ⟨hp x h.1,?_⟩
  have:=h.2
  cases v <;> simp only [Vl.All] at this ⊢
  ·exact hp _ this
  ·exact ⟨hp _ this.1,hp _ this.2⟩
  ·exact hp _ this
  ·exact ⟨hp _ this.1,fun y hy => hp y (this.2 y hy)⟩
 | .iff x a b,h => ⟨hp x h.1,Rw.Alls_mono hp h.2.1,Rw.Alls_mono hp h.2.2⟩
 | .send x,h => hp x h
 | .give x,h => hp x h
theorem Rw.Alls_mono {p q:Str→Prop} (hp:∀ x,p x→q x):∀ {rs:List Rw},Rw.Alls p rs→Rw.Alls q rs
 | [],_ => trivial
 | r :: rs,h => ⟨Rw.All_mono hp h.1,Rw.Alls_mono hp h.2⟩
end
structure SP (j:Nat) (ds:List Df):Prop where
 len:ds.length ≤ 6 + j
 nm:∀ d ∈ ds,Sm d.1∧(∀ x ∈ d.2.1,Sm x)∧Rw.Alls Sm d.2.2
 dep:∀ d ∈ ds,Rw.deps d.2.2 ≤ 4
 cnt:∀ d ∈ ds,(Rw.eachs d.2.2).length ≤ 60
 par:∀ d ∈ ds,d.2.1.length ≤ 4
 ins:∀ d ∈ ds,∀ r ∈ Rw.eachs d.2.2,r.ins.length ≤ 5 + j
theorem NP.sp {ds:List Df} (p:NP ds):SP 0 ds where
 len:=p.len
 nm:=fun d hd => ⟨(p.nm d hd).1.sm,fun x hx => ((p.nm d hd).2.1 x hx).sm,Rw.Alls_mono (fun _ h => h.sm) (p.nm d hd).2.2⟩
 dep:=p.dep
 cnt:=p.cnt
 par:=p.par
 ins:=p.ins
theorem SP.up {i j:Nat} {ds:List Df} (p:SP i ds) (h:i ≤ j):SP j ds :=
 ⟨by have:=p.len; omega,p.nm,p.dep,p.cnt,p.par,fun d hd r hr => by have:=p.ins d hd r hr; omega⟩
theorem SP.names {j:Nat} {ds:List Df} (p:SP j ds):∀ d ∈ ds,∀ x ∈ namesL d,Sm x:=by
 intro d hd x hx
 rcases List.mem_append.mp hx with hx | hx
 ·obtain ⟨r,hr,hx⟩:=List.mem_flatMap.mp hx
  exact ins_All (eachs_All _ (p.nm d hd).2.2 r hr) x hx
 ·exact (p.nm d hd).2.1 x hx
theorem SP.fair {j:Nat} {ds:List Df} (p:SP j ds):∀ d ∈ ds,d.fair:=fun d hd => ⟨(p.nm d hd).1.1,fun x hx => ((p.nm d hd).2.1 x hx).1,Rw.Alls_fairs (fun _ h => h.1) (p.nm d hd).2.2⟩
theorem SP.pl {j:Nat} {ds:List Df} (p:SP j ds):PlL 20 (ds.map Df.pv):=dfs_pl (m:=4) p.fair (fun d hd => p.dep d hd) (by omega)
end PL
namespace PLs
open PySem PySem.Spec PyProof.Rows L2
def geo:Nat→Nat
 | 0 => 0
 | n + 1 => 5 * geo n + 1
theorem geo4:∀ n,4 * geo n + 1 = 5 ^ n
 | 0 => rfl
 | n + 1 => by
  have:=geo4 n
  show 4 * (5 * geo n + 1) + 1 = 5 ^ (n + 1)
  rw [Nat.pow_succ,← this]; omega
theorem geo_add (a:Nat):∀ b,geo (a + b) = 5 ^ b * geo a + geo b
 | 0 => by simp [geo]
 | b + 1 => by
  show 5 * geo (a + b) + 1 = 5 ^ (b + 1) * geo a + (5 * geo b + 1)
  rw [geo_add a b,Nat.pow_succ,Nat.mul_add,Nat.mul_comm (5 ^ b) 5,Nat.mul_assoc]
  omega
theorem geo_dbl (n:Nat):geo (n + n) = 2 * (geo n * (1 + 2 * geo n)):=by
 rw [geo_add,← geo4 n]
 generalize geo n = g
 have:(4 * g + 1) * g = 4 * (g * g) + g:=by rw [Nat.add_mul,Nat.mul_assoc,Nat.one_mul]
 have h2:g * (1 + 2 * g) = g + 2 * (g * g):=by rw [Nat.mul_add,Nat.mul_one,Nat.mul_left_comm]
 rw [this,h2]; omega
theorem geo_par:∀ n,geo n % 2 = n % 2
 | 0 => rfl
 | n + 1 => by
  have:=geo_par n
  show (5 * geo n + 1) % 2 = (n + 1) % 2
  omega
theorem odd_cop (e g:Nat):Nat.Coprime (2 ^ e) (1 + 2 * g):=by
 refine Nat.Coprime.pow_left e ?_
 have h:(1 + 2 * g) % 2 = 1:=by omega
 unfold Nat.Coprime
 rw [Nat.gcd_rec,h]
 rfl
theorem geo_dvd:∀ e n,2 ^ e ∣ geo n→2 ^ e ∣ n
 | 0,n,_ => by simp
 | e + 1,n,h => by
  have h2:geo n % 2 = 0:=Nat.mod_eq_zero_of_dvd (Nat.dvd_trans ⟨2 ^ e,by rw [Nat.pow_succ,Nat.mul_comm]⟩ h)
  have hn:n % 2 = 0:=by rw [← geo_par]; exact h2
  obtain ⟨m,rfl⟩:∃ m,n = m + m:=⟨n / 2,by omega⟩
  rw [geo_dbl,Nat.pow_succ,Nat.mul_comm (2 ^ e) 2] at h
  have h3:2 ^ e ∣ geo m * (1 + 2 * geo m):=Nat.dvd_of_mul_dvd_mul_left (by decide) h
  have h4:=geo_dvd e m ((odd_cop e (geo m)).dvd_of_dvd_mul_right h3)
  obtain ⟨c,rfl⟩:=h4
  exact ⟨c,by rw [Nat.pow_succ,Nat.mul_assoc,Nat.mul_left_comm]; omega⟩
theorem lcg_form (m i:Nat) (hi:i ≤ m):∀ k,lcgI m i k = (5 ^ k * i + geo k) % (m + 1)
 | 0 => by
  show i = (5 ^ 0 * i + 0) % (m + 1)
  rw [Nat.pow_zero,Nat.one_mul,Nat.add_zero,Nat.mod_eq_of_lt (Nat.lt_succ_of_le hi)]
 | k + 1 => by
  show (lcgI m i k * 5 + 1) % (m + 1) = (5 ^ (k + 1) * i + (5 * geo k + 1)) % (m + 1)
  rw [lcg_form m i hi k,Nat.add_mod,Nat.mod_mul_mod,← Nat.add_mod]
  congr 1
  rw [Nat.pow_succ,Nat.add_mul]
  have:5 ^ k * i * 5 = 5 ^ k * 5 * i:=by rw [Nat.mul_assoc,Nat.mul_comm i 5,← Nat.mul_assoc]
  omega
def Mk (m:Nat):Prop:=∃ e,3 ≤ e∧e ≤ 24∧m + 1 = 2 ^ e
theorem lcg_inj {m i:Nat} (hm:Mk m) (hi:i ≤ m) {a d:Nat} (hd:0 < d) (hl:d ≤ m):lcgI m i a ≠ lcgI m i (a + d):=by
 obtain ⟨e,_,_,he⟩:=hm
 intro h
 rw [lcg_form m i hi,lcg_form m i hi] at h
 generalize hv:5 ^ a * i + geo a = v at h
 have e1:5 ^ (a + d) * i + geo (a + d) = v + geo d * (1 + 2 * (2 * v)):=by
  rw [geo_add,Nat.pow_add,← hv,← geo4 d]
  generalize geo d = g
  generalize geo a = b
  generalize 5 ^ a = p
  have:g * (1 + 2 * (2 * (p * i + b))) = g + 4 * (g * (p * i)) + 4 * (g * b):=by
   rw [Nat.mul_add,Nat.mul_one,← Nat.mul_assoc 2 2,Nat.mul_left_comm g,Nat.mul_add g]; omega
  rw [this]
  have h2:p * (4 * g + 1) * i = 4 * (g * (p * i)) + p * i:=by
   rw [Nat.mul_add,Nat.mul_one,Nat.add_mul,Nat.mul_assoc p (4 * g) i,Nat.mul_left_comm p (4 * g) i,Nat.mul_assoc 4 g]
  have h3:(4 * g + 1) * b = 4 * (g * b) + b:=by rw [Nat.add_mul,Nat.mul_assoc,Nat.one_mul]
  rw [h2,h3]; omega
 rw [e1] at h
 have h5:=Nat.sub_mod_eq_zero_of_mod_eq h.symm
 rw [Nat.add_sub_cancel_left] at h5
 have h6:=Nat.dvd_of_mod_eq_zero h5
 rw [he] at h6
 have h7:=geo_dvd e d ((odd_cop e (2 * v)).dvd_of_dvd_mul_right h6)
 have h8:=Nat.le_of_dvd hd h7
 omega
theorem lcg_meets {m i j:Nat} (hm:Mk m) (hi:i ≤ m) (hj:j ≤ m):∃ k,k ≤ m∧lcgI m i k = j:=by
 rcases Classical.em (j ∈ (List.range (m + 1)).map (lcgI m i)) with c | c
 ·obtain ⟨k,h1,h2⟩:=List.mem_map.mp c
  exact ⟨k,Nat.le_of_lt_succ (List.mem_range.mp h1),h2⟩
 ·exfalso
  have nd:((List.range (m + 1)).map (lcgI m i)).Nodup:=by
   refine List.pairwise_map.mpr (List.Pairwise.imp_of_mem (fun {a b} ha hb hlt => ?_) (List.pairwise_lt_range (n:=m + 1)))
   have hb':=List.mem_range.mp hb
   obtain ⟨d,rfl⟩:∃ d,b = a + d:=⟨b - a,by omega⟩
   exact lcg_inj hm hi (by omega) (by omega)
  have hsub:=nat_nodup_len _ ((List.range (m + 1)).erase j) nd fun x hx => by
   have hne:x ≠ j:=fun z => c (z ▸ hx)
   refine (List.mem_erase_of_ne hne).mpr (List.mem_range.mpr ?_)
   obtain ⟨k,_,h2⟩:=List.mem_map.mp hx
   rw [← h2,lcg_form m i hi]
   exact Nat.mod_lt _ (Nat.succ_pos _)
  rw [List.length_map,List.length_erase_of_mem (List.mem_range.mpr (Nat.lt_succ_of_le hj)),List.length_range] at hsub
  omega
theorem runs_meet {m:Nat} (hm:Mk m) (h:Int) {j:Nat} (hj:j ≤ m):∃ n,n ≤ m + 12∧runI m (SetTable.bits h) n = j:=by
 obtain ⟨k,h1,h2⟩:=lcg_meets hm (runI_le m (SetTable.bits h) 12) hj
 exact ⟨12 + k,by omega,(runI_tail (bits_lt h) k).trans h2⟩
theorem way_meets {m:Nat} (hm:Mk m) (h:Int) {j:Nat} (hj:j ≤ m):∃ k,k < 10 * SetTable.turns m∧way m h k = j:=by
 obtain ⟨n,h1,h2⟩:=runs_meet hm h hj
 obtain ⟨k,h3,h4⟩:=run_nth m (SetTable.bits h) n
 refine ⟨k,by unfold SetTable.turns; omega,?_⟩
 show SetTable.Probe.j _ = j
 rw [h4,← h2]; rfl
theorem way_in (m:Nat) (h:Int) (k:Nat):way m h k ≤ m:=by
 have hb:SetTable.bits h % (m + 1) ≤ m:=Nat.le_of_lt_succ (Nat.mod_lt _ (Nat.succ_pos _))
 have r:=runEnd_bd hb
 have:=nth_in k (runAt m (SetTable.bits h % (m + 1)) (SetTable.bits h)) (show SetTable.bits h % (m + 1) + (SetTable.runEnd m (SetTable.bits h % (m + 1)) - SetTable.bits h % (m + 1)) ≤ m by omega)
 exact Nat.le_trans (Nat.le_add_right _ _) this
structure TabG (t:SetTable) (hs:List Int):Prop where
 ris:Ris t.place.toList
 nod:t.dummies = #[]
 siz:t.place.toList.length = hs.length
 msk:Mk t.mask
 low:∀ x ∈ t.place.toList,x ≤ t.mask
 fnd:∀ (i:Nat) (h:Int) (j:Nat),hs[i]? = some h→t.place.toList[i]? = some j→∃ k,way t.mask h k = j∧∀ c,c < k→way t.mask h c ∈ t.place.toList
section
variable {t:SetTable} {hs:List Int} {h:Int} {n:Nat}
theorem TabG.gap (T:TabG t hs) (hl:hs.length ≤ t.mask) (h:Int):∃ n,n < 10 * SetTable.turns t.mask∧way t.mask h n ∉ t.place.toList∧∀ c,c < n→way t.mask h c ∈ t.place.toList:=by
 obtain ⟨j,j1,j2⟩:=st_missing t.place.toList (t.mask + 1) (by rw [T.siz]; omega)
 obtain ⟨k,k1,k2⟩:=way_meets T.msk h (Nat.le_of_lt_succ j1)
 obtain ⟨n,n1,n2,n3⟩:=st_least (p:=fun c => way t.mask h c ∉ t.place.toList) k (by rw [k2]; exact j2)
 exact ⟨n,Nat.lt_of_le_of_lt n1 k1,n2,fun c hc => Classical.not_not.mp (n3 c hc)⟩
theorem TabG.ahead (T:TabG t hs) {i j:Nat} (hn:way t.mask h n ∉ t.place.toList) (hi:hs[i]? = some h) (hj:t.place.toList[i]? = some j):∃ c,c < n∧way t.mask h c = j:=by
 obtain ⟨k,e,b⟩:=T.fnd i h j hi hj
 refine ⟨k,?_,e⟩
 refine Nat.lt_of_not_le fun q => ?_
 rcases Nat.lt_or_eq_of_le q with c | c
 ·exact hn (b n c)
 ·rw [c,e] at hn
  exact hn (List.mem_of_getElem? hj)
theorem TabG.more (T:TabG t hs) (hn:way t.mask h n ∉ t.place.toList) (hb:∀ c,c < n→way t.mask h c ∈ t.place.toList) :
  ∃ p t',t.put (way t.mask h n) = (t',p)∧p ≤ hs.length∧TabG t' (hs.take p ++ h :: hs.drop p)∧t'.mask = t.mask∧t'.led = t.led∧t'.plain = t.plain∧t'.fill = hs.length + 1:=by
 have T0:=T
 obtain ⟨r,d,z,m,l,f⟩:=T0
 have hle:=way_in t.mask h n
 generalize hj:way t.mask h n = j at hn hle ⊢
 have cut:=(below_cut r j).1
 generalize hp:SetTable.below t.place j = p at cut
 have cutL:p ≤ t.place.toList.length:=by rw [Array.length_toList]; exact cut
 have place:(t.put j).1.place.toList = t.place.toList.take p ++ j :: t.place.toList.drop p:=by rw [put_place,hp]
 have grow:∀ x,x ∈ (t.put j).1.place.toList↔x = j ∨ x ∈ t.place.toList:=fun x => by rw [place]; exact mem_ins
 have len:(t.put j).1.place.toList.length = hs.length + 1:=by rw [place,len_ins _ cutL,z]
 refine ⟨p,(t.put j).1,by rw [← hp]; rfl,by omega,⟨?_,put_dm d j,by rw [len,len_ins _ (by omega)],m,fun x hx => ?_,fun i g q h1 h2 => ?_⟩,rfl,rfl,rfl,?_⟩
 ·exact ris_insert r fun e => hn (List.mem_of_getElem? (by rw [Array.getElem?_toList]; exact e))
 ·rcases (grow x).mp hx with e | e
  ·rw [e]; exact hle
  ·exact l x e
 ·show ∃ k,way t.mask g k = q∧∀ c,c < k→way t.mask g c ∈ (t.put j).1.place.toList
  rw [tins_get _ (by omega)] at h1
  rw [place,tins_get _ cutL] at h2
  have old:∀ i',hs[i']? = some g→t.place.toList[i']? = some q→∃ k,way t.mask g k = q∧∀ c,c < k→way t.mask g c ∈ (t.put j).1.place.toList:=fun i' a b => by
   obtain ⟨k,k1,k2⟩:=f i' g q a b
   exact ⟨k,k1,fun c hc => (grow _).mpr (.inr (k2 c hc))⟩
  split at h1
  ·rename_i c1
   rw [if_pos c1] at h2
   exact old i h1 h2
  ·rename_i c1
   rw [if_neg c1] at h2
   split at h1
   ·rename_i c2
    rw [if_pos c2] at h2
    cases h1; cases h2
    exact ⟨n,hj,fun c hc => (grow _).mpr (.inr (hb c hc))⟩
   ·rename_i c2
    rw [if_neg c2] at h2
    exact old (i - 1) h1 h2
 ·show (t.put j).1.place.size + (t.put j).1.dummies.size = _
  rw [put_dm d j,← Array.length_toList,len]; rfl
end
theorem slot_found {m:Nat} (hm:Mk m) (owner:Array (Option Nat)) (h:Int) {j:Nat} (hj:j ≤ m) (hf:oAt owner j = none) :
  ∃ n,SetTable.layClean.free m owner (SetTable.turns m) (SetTable.bits h % (m + 1)) (SetTable.bits h) = some (way m h n)∧oAt owner (way m h n) = none∧∀ c,c < n→oAt owner (way m h c) ≠ none:=by
 obtain ⟨r,r1,r2⟩:=runs_meet hm h hj
 generalize ho:off m (SetTable.bits h % (m + 1)) (SetTable.bits h) r = N
 have hw:way m h N = j:=by
  subst ho
  show SetTable.Probe.j (nth m (runAt m (SetTable.bits h % (m + 1)) (SetTable.bits h)) (off m (SetTable.bits h % (m + 1)) (SetTable.bits h) r)) = j
  rw [nth_off,itL_run,← r2]; rfl
 obtain ⟨n,n1,n2,n3⟩:=st_least (p:=fun c => oAt owner (way m h c) = none) N (by rw [hw]; exact hf)
 refine ⟨n,free_spec m owner _ r _ _ n (by unfold SetTable.turns; omega) (by rw [ho]; exact n1) (fun c hc => ?_) (by rw [show oAt owner (nth m (runAt m (SetTable.bits h % (m + 1)) (SetTable.bits h)) n).j = none from n2]; rfl),n2,n3⟩
 have q:=n3 c hc
 cases z:oAt owner (nth m (runAt m (SetTable.bits h % (m + 1)) (SetTable.bits h)) c).j with
 | none => exact absurd z q
 | some _ => rfl
theorem own_more {m:Nat} (hm:Mk m) {done:List Int} {owner:Array (Option Nat)} (W:Own m done owner) (hl:done.length ≤ m) (h:Int) :
  ∃ j,SetTable.layClean.free m owner (SetTable.turns m) (SetTable.bits h % (m + 1)) (SetTable.bits h) = some j∧Own m (done ++ [h]) (owner.setIfInBounds j (some done.length)):=by
 have W0:=W
 obtain ⟨sz,at',all',ps,pl,pin⟩:=W0
 obtain ⟨j0,a1,a2⟩:=st_missing ps (m + 1) (by omega)
 have free0:oAt owner j0 = none:=Classical.not_not.mp fun q => a2 (pin j0 (Nat.le_of_lt_succ a1) q)
 obtain ⟨n,b1,b2,b3⟩:=slot_found hm owner h (Nat.le_of_lt_succ a1) free0
 have le:=way_in m h n
 generalize hj:way m h n = j at b1 b2 le
 refine ⟨j,b1,?_⟩
 have hs:j < owner.size:=by omega
 have here:=oAt_set_self (some done.length) hs
 have there:∀ i,i ≠ j→oAt (owner.setIfInBounds j (some done.length)) i = oAt owner i:=fun i hi => oAt_set_ne _ hi
 have up:∀ i,oAt owner i ≠ none→oAt (owner.setIfInBounds j (some done.length)) i ≠ none:=fun i hi => by
  by_cases e:i = j
  ·rw [e,here]; simp
  ·rw [there i e]; exact hi
 refine ⟨by rw [Array.size_setIfInBounds]; exact sz,fun i k hi e => ?_,fun k hk => ?_,j :: ps,by simp [pl],fun i hi e => ?_⟩
 ·by_cases c:i = j
  ·rw [c,here] at e
   cases e
   exact ⟨h,n,by simp,by rw [hj,c],fun c' hc => up _ (b3 c' hc)⟩
  ·rw [there i c] at e
   obtain ⟨g,K,e1,e2,e3⟩:=at' i k hi e
   exact ⟨g,K,by rw [List.getElem?_append_left (List.getElem?_eq_some_iff.mp e1).1]; exact e1,e2,fun c' hc => up _ (e3 c' hc)⟩
 ·by_cases c:k < done.length
  ·obtain ⟨i,i1,i2⟩:=all' k c
   exact ⟨i,i1,by rw [there i fun z => by rw [z,b2] at i2; cases i2]; exact i2⟩
  ·have:k = done.length:=by simp at hk; omega
   subst this
   exact ⟨j,le,here⟩
 ·by_cases c:i = j
  ·rw [c]; simp
  ·rw [there i c] at e
   exact List.mem_cons_of_mem _ (pin i hi e)
theorem lay_fold {m:Nat} (hm:Mk m):∀ (rest done:List Int) (owner:Array (Option Nat)),Own m done owner→done.length + rest.length ≤ m →
  ∃ o',rest.foldl (stepF m) (some (owner,done.length)) = some (o',(done ++ rest).length)∧Own m (done ++ rest) o'
 | [],done,owner,W,_ => ⟨owner,by simp,by simpa using W⟩
 | h :: rest,done,owner,W,hl => by
  simp only [List.length_cons] at hl
  obtain ⟨j,e,W1⟩:=own_more hm W (by omega) h
  obtain ⟨o',e2,W2⟩:=lay_fold hm rest (done ++ [h]) _ W1 (by simp; omega)
  refine ⟨o',?_,by simpa using W2⟩
  rw [List.foldl_cons,stepF_some e]
  simpa using e2
theorem lay_all {m:Nat} (hm:Mk m) {hs:Array Int} (hn:hs.size ≤ m):∃ owner,SetTable.layClean m hs = some owner∧Own m hs.toList owner:=by
 obtain ⟨o,e,W⟩:=lay_fold hm hs.toList [] _ (Own.init m) (by simp; exact hn)
 refine ⟨o,?_,by simpa using W⟩
 rw [layClean_eq]
 have e':hs.toList.foldl (stepF m) (some (Array.replicate (m + 1) none,0)) = some (o,([] ++ hs.toList).length):=e
 rw [e']; rfl
theorem relaid_all (t:SetTable) {hs:Array Int} {wanted M:Nat} (hw:SetTable.sizeAbove wanted - 1 = M) (hM:Mk M) (hn:hs.size ≤ M) :
  ∃ t' order,t.relaid hs wanted = some (t',order)∧order.toList.Perm (List.range hs.size)∧TabG t' (order.toList.map fun i => hs.getD i 0)∧t'.mask = M∧t'.led = t.led∧t'.plain = t.plain:=by
 obtain ⟨owner,e,W⟩:=lay_all hM hn
 have e2:t.relaid hs wanted = some (tabOf t M owner,((liveOf M owner).map (·.2)).toArray):=by rw [relaid_eq,hw,e]; rfl
 have rl:=ris_live (fun j => owner.getD j none) (List.range (M + 1)) (by unfold Ris; exact List.pairwise_lt_range)
 have nd:((liveOf M owner).map (·.1)).Nodup:=List.Pairwise.imp (fun z => Nat.ne_of_lt z) rl.1
 have live:∀ j k,(j,k) ∈ liveOf M owner↔j ≤ M∧oAt owner j = some k:=fun j k => mem_live W.sz
 have len:(liveOf M owner).length = hs.size:=by
  obtain ⟨ps,p1,p2⟩:=W.ps
  refine Nat.le_antisymm ?_ ?_
  ·have:=nat_nodup_len _ ps nd fun x hx => by
    obtain ⟨⟨y,k⟩,q1,q2⟩:=List.mem_map.mp hx
    cases q2
    have q:=(live y k).mp q1
    exact p2 y q.1 (by rw [q.2]; simp)
   simpa [p1] using this
  ·have:=nat_nodup_len (List.range hs.size) ((liveOf M owner).map (·.2)) List.nodup_range fun k hk => by
    obtain ⟨j,q1,q2⟩:=W.all k (by simpa using hk)
    exact List.mem_map.mpr ⟨(j,k),(live j k).mpr ⟨q1,q2⟩,rfl⟩
   simpa using this
 refine ⟨_,_,e2,?_,⟨rl.1,rfl,?_,hM,fun x hx => ?_,fun i h j h1 h2 => ?_⟩,rfl,rfl,rfl⟩
 ·refine perm_range hs.size _ (by simpa using len) fun k hk => ?_
  obtain ⟨j,q1,q2⟩:=W.all k (by simpa using hk)
  exact List.mem_map.mpr ⟨(j,k),(live j k).mpr ⟨q1,q2⟩,rfl⟩
 ·simp [tabOf]
 ·exact Nat.le_of_lt_succ (List.mem_range.mp (rl.2 x hx))
 ·have a1:((liveOf M owner).map fun x => hs.getD x.2 0)[i]? = some h:=by simpa using h1
  have a2:((liveOf M owner).map (·.1))[i]? = some j:=h2
  rw [List.getElem?_map] at a1 a2
  cases hq:(liveOf M owner)[i]? with
  | none => rw [hq] at a2; cases a2
  | some q =>
   obtain ⟨y,k⟩:=q
   rw [hq] at a1 a2
   cases a2
   have b:=(live y k).mp (List.mem_of_getElem? hq)
   obtain ⟨g,n,c1,c2,c3⟩:=W.at_ y k b.1 b.2
   have eg:hs.getD k 0 = g:=by
    rw [Array.getD_eq_getD_getElem?,← Array.getElem?_toList,c1]; rfl
   have eh:hs.getD k 0 = h:=Option.some.inj a1
   rw [eg] at eh
   subst eh
   refine ⟨n,c2,fun c hc => ?_⟩
   show way M g c ∈ (liveOf M owner).map (·.1)
   cases z:oAt owner (way M g c) with
   | none => exact absurd z (c3 c hc)
   | some k2 => exact List.mem_map.mpr ⟨(_,k2),(live _ k2).mpr ⟨way_in M g c,z⟩,rfl⟩
end PLs
set_option maxHeartbeats 2000000
namespace PLs
open PySem PySem.Spec PyProof.Rows L2
structure SKind (P:Program) (w:World) (K:Type) [DecidableEq K] where
 k:HeapKind P w K
 same:∀ {h h':Heap} {x:K} {a b:Addr} {o:Obj} {es:Array (Int × Value)} {ep:Nat} {t:SetTable},k.is h x b→h.get? a = some o→o.data = .set es ep t→Heap.SameBut a h h'→k.is h' x b
 keep:∀ {h h':Heap} {x:K} {b:Addr},k.is h x b→(∀ c o,h.get? c = some o→h'.get? c = some o)→k.is h' x b
 cls:∀ {A:Around} {E:Value→Shared→Prop} {s:Shared} {x:K} {b:Addr} {Q:Bool→Shared→Prop},k.is s.heap x b→Q false s→wpAny (model P w) A (ofAClassStatement 8 (.ref b)) Q E s
 byv:∀ {A:Around} {E:Value→Shared→Prop} {s:Shared} {x:K} {b:Addr} {Q:Bool→Shared→Prop},k.is s.heap x b→(∀ c,Q c s)→wpAny (model P w) A (hashByValue 8 (.ref b)) Q E s
 roomy:∀ {A:Around},A.units < cLine→k.room A
section
variable {P:Program} {w:World} {K:Type} [DecidableEq K] {S:SKind P w K} {A:Around} {E:Value→Shared→Prop} {s:Shared}
theorem unseen {x:K} {b:Addr} {Q:Bool→Shared→Prop} (hx:S.k.is s.heap x b) {ys:List Value} (hy:∀ y ∈ ys,∃ z c,y = Value.ref c∧S.k.is s.heap z c) (h:Q false s) :
  wpAny (model P w) A (searchCouldBeSeen (.ref b) ys) Q E s:=by
 unfold searchCouldBeSeen
 refine wpAny_bind (wpAny_forIn_list _ (fun left r s' => s' = s∧r.1 = none∧∀ y ∈ left,∃ z c,y = Value.ref c∧S.k.is s.heap z c) _ ?turn ?over _ _ ⟨rfl,rfl,hy⟩)
 case turn =>
  rintro y left r s' ⟨e,hr,all⟩
  subst e
  obtain ⟨z,c,rfl,hc⟩:=all y (by simp)
  have more:∀ u ∈ left,∃ z c,u = Value.ref c∧S.k.is s'.heap z c:=fun u hu => all u (by simp [hu])
  dsimp only
  by_cases hv:(b == c || (carriedByValue (.ref b) && carriedByValue (.ref c))) = true
  ·exact wp_if_pos hv (wpAny_pure ⟨rfl,rfl,more⟩)
  ·refine wp_if_neg hv ?_
   refine wpAny_bind (S.k.quiet hx ?_)
   simp only [Bool.not_true,Bool.false_eq_true,if_false]
   refine wpAny_bind (S.k.quiet hc ?_)
   simp only [Bool.not_true,Bool.false_eq_true,if_false]
   refine wpAny_bind (S.cls hx ?_)
   simp only [Bool.false_eq_true,if_false]
   refine wpAny_bind (S.cls hc ?_)
   simp only [Bool.false_eq_true,if_false]
   exact wpAny_pure ⟨rfl,rfl,more⟩
 case over =>
  rintro ⟨r1,r2⟩ s' ⟨e,hr,_⟩
  subst e
  simp only at hr
  subst hr
  exact wpAny_pure h
def Mok (m:Nat):Prop:=m = 7 ∨ m = 31 ∨ m = 127 ∨ m = 511 ∨ m = 2047 ∨ m = 8191
theorem Mok.le {m:Nat} (h:Mok m):m ≤ 8191:=by unfold Mok at h; omega
theorem Mok.odd {m:Nat} (h:Mok m):m % 2 = 1:=by unfold Mok at h; omega
theorem Mok.mk {m:Nat} (h:Mok m):Mk m:=by
 rcases h with e | e | e | e | e | e <;> subst e
 ·exact ⟨3,by decide,by decide,by decide⟩
 ·exact ⟨5,by decide,by decide,by decide⟩
 ·exact ⟨7,by decide,by decide,by decide⟩
 ·exact ⟨9,by decide,by decide,by decide⟩
 ·exact ⟨11,by decide,by decide,by decide⟩
 ·exact ⟨13,by decide,by decide,by decide⟩
def rowsS (S:SKind P w K) (L:List (Addr × K)):List (Int × Value):=L.map fun p => (S.k.hash p.2,Value.ref p.1)
def hashS (S:SKind P w K) (L:List (Addr × K)):List Int:=L.map fun p => S.k.hash p.2
structure SetB (S:SKind P w K) (h:Heap) (a:Addr) (L:List (Addr × K)) (es:Array (Int × Value)) (ep:Nat) (t:SetTable):Prop where
 ob:∃ o,h.get? a = some o∧o.ExactSet∧o.data = .set es ep t
 rows:es.toList = rowsS S L
 tab:TabG t (hashS S L)
 nd:(L.map (·.2)).Nodup
 led:w.params.followText "set-order" = true ∨ t.led = true
 msk:Mok t.mask
 room:L.length * 5 < t.mask * 3
 few:L.length ≤ 4000
variable {a:Addr} {L:List (Addr × K)} {es:Array (Int × Value)} {ep:Nat} {t:SetTable}
theorem SetB.size {h:Heap} (R:SetB S h a L es ep t):es.size = L.length:=by
 rw [← Array.length_toList,R.rows]; simp [rowsS]
theorem fits_of (hd:t.dummies = #[]) (hz:t.place.toList.length = es.size) (hl:es.size ≤ t.mask):t.fits es.size = true:=by
 have hz':t.place.size = es.size:=by rw [← Array.length_toList]; exact hz
 simp [SetTable.fits,SetTable.fill,hd,hz',hl]
theorem SetB.fits {h:Heap} (R:SetB S h a L es ep t):t.fits es.size = true:=by
 have h1:=R.room
 refine fits_of R.tab.nod ?_ ?_
 ·rw [R.tab.siz,R.size]; simp [hashS]
 ·rw [R.size]; omega
theorem SetB.entry {h:Heap} (R:SetB S h a L es ep t) {i:Nat} {p:Addr × K} (e:L[i]? = some p):es[i]? = some (S.k.hash p.2,Value.ref p.1):=by
 rw [← Array.getElem?_toList,R.rows]
 simp [rowsS,e]
theorem find_from (R:SetB S s.heap a L es ep t) (its:∀ p ∈ L,S.k.is s.heap p.2 p.1) {x:Addr} {k:K} (hx:S.k.is s.heap k x) (hu:A.units < cLine) {g:Int} (hg:S.k.hash k = g) {n:Nat} (hn:way t.mask g n ∉ t.place.toList) (hb:∀ c,c < n→way t.mask g c ∈ t.place.toList)
  (hnf:n < 10 * SetTable.turns t.mask) {Q:SetFound→Shared→Prop} (hin:k ∈ L.map (·.2)→Q (.there none) s) (hout:k ∉ L.map (·.2)→Q (.free (way t.mask g n) false) s) :
  ∀ (f c:Nat) (stand:Option SetTable.Probe),stand.getD (t.probeStart g) = nth t.mask (runAt t.mask (SetTable.bits g % (t.mask + 1)) (SetTable.bits g)) c→c ≤ n→n - c < f →
   (∀ (i:Nat) p,L[i]? = some p→p.2 = k→∃ d,c ≤ d∧d < n∧t.place.toList[i]? = some (way t.mask g d)) →
   wpAny (model P w) A (setSearchFrom a (.ref x) g true f stand) Q E s:=by
 intro f
 induction f with
 | zero => intro c stand _ _ hf; exact absurd hf (Nat.not_lt_zero _)
 | succ f ih =>
  intro c stand hst hc hf hre
  have R0:=R
  obtain ⟨⟨o,ho,hex,hd⟩,rows,tab,nd,led,msk,room,few⟩:=R0
  have fit:=R.fits
  rw [setSearchFrom_succ]
  refine wpAny_bind (wpAny_setState_of ho hd fit ?_)
  dsimp only
  refine wp_if_neg (by unfold SetTable.gaveWay; rw [msk.odd]; decide) ?_
  try refine wpAny_bind (wpAny_pure ?_)
  generalize hp0:runAt t.mask (SetTable.bits g % (t.mask + 1)) (SetTable.bits g) = p0 at hst
  have wayd:∀ d,way t.mask g d = (nth t.mask p0 d).j:=fun d => by rw [← hp0]
  have nodm:∀ d,(nth t.mask p0 d).dummy = none:=by
   intro d
   induction d with
   | zero => rw [← hp0]; rfl
   | succ d q =>
    rw [nth_succ]
    unfold adv
    split <;> exact q
  have shift:∀ q,nth t.mask (nth t.mask p0 c) q = nth t.mask p0 (c + q):=fun q => (nth_add t.mask c p0 q).symm
  have look:=go_spec t tab.ris tab.nod (fun i => (es[i]?.map (·.1)).getD 0) g (10 * SetTable.turns t.mask) (n - c) _ (nodm c) (by omega)
   (fun q hq => by rw [shift,← wayd]; exact hb _ (by omega)) (by rw [shift,← wayd,Nat.add_sub_cancel' hc]; exact hn)
  have hashAt:∀ (i:Nat) p,L[i]? = some p→(es[i]?.map (·.1)).getD 0 = S.k.hash p.2:=fun i p e => by rw [R.entry e]; rfl
  rcases look with ⟨q,i,hq,hi,hh,before,found⟩ | ⟨before,found⟩
  ·rw [shift] at found hi
   rw [← wayd] at found hi
   rw [shift] at found
   have found':t.probe (fun i => (es[i]?.map (·.1)).getD 0) g (stand.getD (t.probeStart g)) = some (.candidate (way t.mask g (c + q)) i (nth t.mask p0 (c + (q + 1)))):=by rw [hst]; exact found
   rw [found']
   dsimp only
   have hil:i < L.length:=by
    have h1:=(List.getElem?_eq_some_iff.mp hi).1
    rw [tab.siz] at h1
    simpa [hashS] using h1
   obtain ⟨p,hp⟩:∃ p,L[i]? = some p:=⟨_,List.getElem?_eq_getElem hil⟩
   have hpL:=List.mem_of_getElem? hp
   have rest:wpAny (model P w) A (searchRest a (.ref x) g true f es t (way t.mask g (c + q)) i (nth t.mask p0 (c + (q + 1)))) Q E s:=by
    unfold searchRest
    rw [R.entry hp]
    dsimp only
    refine wpAny_bind (wpAny_holding (S.k.eqBool (S.roomy hu) (its p hpL) hx ?_))
    refine wpAny_bind (wpAny_setState_of ho hd fit ?_)
    dsimp only
    by_cases same:p.2 = k
    ·refine wp_if_pos (by simp [same]) (wpAny_pure (hin (List.mem_map.mpr ⟨p,hpL,same⟩)))
    ·refine wp_if_neg (by simp [same]) ?_
     try refine wpAny_bind (wpAny_pure ?_)
     have mem:t.sameMemory t.moves t.mask = some true:=by simp [SetTable.sameMemory]
     rw [mem]
     dsimp only
     have live:=slot_live tab.ris hi
     simp only [if_true,live,R.entry hp]
     refine wpAny_bind (wpAny_isSame_ref_self (wpAny_bind (wpAny_pure ?_)))
     simp only [if_true]
     refine wp_if_neg (by simp [same]) ?_
     refine ih (c + (q + 1)) _ (by rw [Option.getD_some,hp0]) (by omega) (by omega) fun i0 p1 h1 h2 => ?_
     obtain ⟨d,d1,d2,d3⟩:=hre i0 p1 h1 h2
     refine ⟨d,?_,d2,d3⟩
     have ne1:¬ d < c + q:=fun z => by
      refine before (d - c) i0 (by omega) (by rw [shift,← wayd,Nat.add_sub_cancel' d1]; exact d3) ?_
      show (es[i0]?.map (·.1)).getD 0 = g
      rw [hashAt i0 p1 h1,h2,hg]
     have ne2:d ≠ c + q:=fun z => by
      rw [z] at d3
      have l2:=slot_live tab.ris d3
      rw [live] at l2
      injection l2 with l2
      rw [← l2,hp] at h1
      exact same (by rw [Option.some.inj h1]; exact h2)
     omega
   by_cases hl:t.led = true
   ·refine wp_if_neg (by simp [hl]) ?_
    try refine wpAny_bind (wpAny_pure ?_)
    exact rest
   ·refine wp_if_pos (by simp [hl]) (wpAny_bind (unseen hx (fun y hy => ?_) ?_))
    ·obtain ⟨e,e1,e2⟩:=List.mem_map.mp hy
     have e3:e ∈ es.toList:=by
      have:e ∈ es∧e.1 = g:=by simpa using e1
      simpa using this.1
     rw [rows] at e3
     obtain ⟨p2,q1,q2⟩:=List.mem_map.mp e3
     exact ⟨p2.2,p2.1,by rw [← e2,← q2],its p2 q1⟩
    ·refine wp_if_neg (by decide) ?_
     try refine wpAny_bind (wpAny_pure ?_)
     exact rest
  ·rw [shift,← wayd,Nat.add_sub_cancel' hc] at found
   have found':t.probe (fun i => (es[i]?.map (·.1)).getD 0) g (stand.getD (t.probeStart g)) = some (.empty (way t.mask g n) none):=by rw [hst]; exact found
   rw [found']
   dsimp only
   refine wpAny_pure (hout fun hm => ?_)
   obtain ⟨p1,h1,h2⟩:=List.mem_map.mp hm
   obtain ⟨i0,_,e0⟩:=List.getElem_of_mem h1
   have h3:L[i0]? = some p1:=by rw [List.getElem?_eq_getElem (by assumption),e0]
   obtain ⟨d,d1,d2,d3⟩:=hre i0 p1 h3 h2
   refine before (d - c) i0 (by omega) (by rw [shift,← wayd,Nat.add_sub_cancel' d1]; exact d3) ?_
   show (es[i0]?.map (·.1)).getD 0 = g
   rw [hashAt i0 p1 h3,h2,hg]
theorem find_to_add (R:SetB S s.heap a L es ep t) (its:∀ p ∈ L,S.k.is s.heap p.2 p.1) {x:Addr} {k:K} (hx:S.k.is s.heap k x) (hu:A.units < cLine) {g:Int} (hg:S.k.hash k = g) {Q:SetFound→Shared→Prop}
  (hin:k ∈ L.map (·.2)→Q (.there none) s) (hout:∀ n,k ∉ L.map (·.2)→way t.mask g n ∉ t.place.toList→(∀ c,c < n→way t.mask g c ∈ t.place.toList)→Q (.free (way t.mask g n) false) s) :
  wpAny (model P w) A (setSearch a (.ref x) g true) Q E s:=by
 have hr:=R.room
 have hm:=R.msk.le
 obtain ⟨n,n1,n2,n3⟩:=R.tab.gap (by simp [hashS]; omega) g
 have big:n < 100000:=by unfold SetTable.turns at n1; omega
 unfold setSearch
 refine find_from R its hx hu hg n2 n3 n1 hin (fun q => hout n q n2 n3) 100000 0 none rfl (Nat.zero_le _) (by omega) fun i p h1 h2 => ?_
 have h3:(hashS S L)[i]? = some g:=by simp [hashS,h1,h2,hg]
 have hl:i < t.place.toList.length:=by rw [R.tab.siz]; exact (List.getElem?_eq_some_iff.mp h3).1
 obtain ⟨c,c1,c2⟩:=R.tab.ahead n2 h3 (List.getElem?_eq_getElem hl)
 exact ⟨c,Nat.zero_le _,c1,by rw [c2]; exact List.getElem?_eq_getElem hl⟩
end
end PLs
set_option maxHeartbeats 2000000
namespace PLs
open PySem PySem.Spec PyProof.Rows L2
section
variable {P:Program} {w:World} {K:Type} [DecidableEq K] {S:SKind P w K} {A:Around} {E:Value→Shared→Prop} {s:Shared}
variable {a:Addr} {L:List (Addr × K)} {es:Array (Int × Value)} {ep:Nat} {t:SetTable}
theorem picked {α β γ : Type} (xs:List α) (f : α→β):∀ (ix:List Nat),(∀ i ∈ ix,i < xs.length)→ix.filterMap (fun i => (xs.map f)[i]?) = (ix.filterMap fun i => xs[i]?).map f
 | [],_ => rfl
 | i :: ix,h => by
  have hi:=h i (by simp)
  have ih:=picked (γ:=γ) xs f ix fun j hj => h j (by simp [hj])
  have e:(xs.map f)[i]? = some (f xs[i]):=by simp [hi]
  simp only [List.filterMap_cons,e,List.getElem?_eq_getElem hi,ih,List.map_cons]
theorem picked_hash (xs:List (Addr × K)) (H:Array Int) (hH:H.toList = hashS S xs):∀ (ix:List Nat),(∀ i ∈ ix,i < xs.length)→hashS S (ix.filterMap fun i => xs[i]?) = ix.map fun i => H.getD i 0
 | [],_ => rfl
 | i :: ix,h => by
  have hi:=h i (by simp)
  have ih:=picked_hash xs H hH ix fun j hj => h j (by simp [hj])
  have e:H.getD i 0 = S.k.hash (xs[i]).2:=by
   rw [Array.getD_eq_getD_getElem?,← Array.getElem?_toList,hH]
   simp [hashS,hi]
  simp only [List.filterMap_cons,List.getElem?_eq_getElem hi,List.map_cons,e,← ih]
  rfl
theorem all_picked {α : Type} (xs:List α):(List.range xs.length).filterMap (fun i => xs[i]?) = xs:=by
 induction xs with
 | nil => rfl
 | cons x xs ih =>
  rw [List.length_cons,List.range_succ_eq_map,List.filterMap_cons]
  simp only [List.getElem?_cons_zero,List.filterMap_map,Function.comp_def,List.getElem?_cons_succ]
  rw [ih]
theorem order_of (hr:es.toList = rowsS S L) (order:Array Nat) (hp:order.toList.Perm (List.range L.length)) :
  ∃ L2,(order.filterMap (es[·]?)).toList = rowsS S L2∧L2.Perm L∧hashS S L2 = order.toList.map fun i => (es.map (·.1)).getD i 0:=by
 have lt:∀ i ∈ order.toList,i < L.length:=fun i hi => List.mem_range.mp (hp.mem_iff.mp hi)
 refine ⟨order.toList.filterMap fun i => L[i]?,?_,?_,?_⟩
 ·rw [Array.toList_filterMap]
  have e:(fun i => es[i]?) = fun i => (L.map fun p => (S.k.hash p.2,Value.ref p.1))[i]?:=funext fun i => by
   rw [← Array.getElem?_toList,hr]; rfl
  show order.toList.filterMap (fun i => es[i]?) = _
  rw [e,picked (γ:=Nat) L _ order.toList lt]; rfl
 ·have:=hp.filterMap fun i => L[i]?
  rw [all_picked] at this
  exact this
 ·refine picked_hash L _ ?_ _ lt
  rw [Array.toList_map,hr]
  simp [rowsS,hashS]
theorem relay_of {o:Obj} (ho:s.heap.get? a = some o) (hex:o.ExactSet) (hd:o.data = .set es ep t) (hr:es.toList = rowsS S L) (T:TabG t (hashS S L)) (nd:(L.map (·.2)).Nodup)
  (ld:w.params.followText "set-order" = true ∨ t.led = true) (few:L.length ≤ 4000) (fl:L.length ≤ t.mask) {wanted M:Nat} (hw:SetTable.sizeAbove wanted = M + 1) (hM:Mok M) (hn:L.length * 5 < M * 3) {Q:Unit→Shared→Prop}
  (hQ:∀ h' L' es' ep' t',Heap.SameBut a s.heap h'→SetB S h' a L' es' ep' t'→L'.Perm L→Q () { s with heap:=h' }):wpAny (model P w) A (setRelay a wanted) Q E s:=by
 have hsz:es.size = L.length:=by rw [← Array.length_toList,hr]; simp [rowsS]
 have fit:t.fits es.size = true:=fits_of T.nod (by rw [T.siz,hsz]; simp [hashS]) (by omega)
 obtain ⟨t',order,e,hp,T',em,el,_⟩:=relaid_all t (hs:=es.map (·.1)) (wanted:=wanted) (M:=M) (by omega) hM.mk (by rw [Array.size_map,hsz]; omega)
 rw [Array.size_map,hsz] at hp
 obtain ⟨L2,r1,r2,r3⟩:=order_of hr order hp
 rw [← r3] at T'
 have hs2:(order.filterMap (es[·]?)).size = es.size:=by
  rw [← Array.length_toList,r1,hsz,← r2.length_eq]; simp [rowsS]
 have hm:=hM.le
 rw [setRelay_eq]
 refine wpAny_bind (wpAny_setState_of ho hd fit ?_)
 dsimp only
 refine wp_if_neg (by rw [hw,sizeLine_eq]; omega) ?_
 try refine wpAny_bind (wpAny_pure ?_)
 rw [e]
 dsimp only
 refine wpAny_bind (wp_if_neg (by simp [hs2]) ?_)
 try refine wpAny_bind (wpAny_pure ?_)
 refine wpAny_pure ?_
 dsimp only
 refine wpAny_storeSet_of ho hd ?_ (by rw [hs2,hsz,sizeLine_eq]; omega)
 refine hQ _ L2 _ (ep + 1) t' (Heap.SameBut.update ..) ⟨⟨_,store_at ho hd,⟨hex.1,hex.2.1,hex.2.2⟩,rfl⟩,r1,T',(r2.map _).nodup_iff.mpr nd,by rw [el]; exact ld,by rw [em]; exact hM,by rw [r2.length_eq,em]; exact hn,by rw [r2.length_eq]; exact few⟩ r2
theorem rows_mid (L:List (Addr × K)) (p:Nat) (x:Addr) (k:K):rowsS S (L.take p ++ (x,k) :: L.drop p) = (rowsS S L).take p ++ (S.k.hash k,Value.ref x) :: (rowsS S L).drop p:=by
 simp [rowsS,List.map_take,List.map_drop]
theorem hash_mid (L:List (Addr × K)) (p:Nat) (x:Addr) (k:K):hashS S (L.take p ++ (x,k) :: L.drop p) = (hashS S L).take p ++ S.k.hash k :: (hashS S L).drop p:=by
 simp [hashS,List.map_take,List.map_drop]
theorem above5:SetTable.sizeAbove (SetTable.grown 5) = 31 + 1:=by decide +kernel
theorem above19:SetTable.sizeAbove (SetTable.grown 19) = 127 + 1:=by decide +kernel
theorem above77:SetTable.sizeAbove (SetTable.grown 77) = 511 + 1:=by decide +kernel
theorem above307:SetTable.sizeAbove (SetTable.grown 307) = 2047 + 1:=by decide +kernel
theorem above1229:SetTable.sizeAbove (SetTable.grown 1229) = 8191 + 1:=by decide +kernel
theorem next_size {m n:Nat} (hm:Mok m) (h1:(n - 1) * 5 < m * 3) (h2:m * 3 ≤ n * 5) (hn:n ≤ 4000) (h0:1 ≤ n):∃ M,SetTable.sizeAbove (SetTable.grown n) = M + 1∧Mok M∧n * 5 < M * 3:=by
 rcases hm with e | e | e | e | e | e <;> subst e
 ·have:n = 5:=by omega
  subst this; exact ⟨31,above5,by unfold Mok; omega,by decide⟩
 ·have:n = 19:=by omega
  subst this; exact ⟨127,above19,by unfold Mok; omega,by decide⟩
 ·have:n = 77:=by omega
  subst this; exact ⟨511,above77,by unfold Mok; omega,by decide⟩
 ·have:n = 307:=by omega
  subst this; exact ⟨2047,above307,by unfold Mok; omega,by decide⟩
 ·have:n = 1229:=by omega
  subst this; exact ⟨8191,above1229,by unfold Mok; omega,by decide⟩
 ·omega
theorem tab_led {t:SetTable} {hs:List Int} (b:Bool) (T:TabG t hs):TabG (if b = true then t else { t with plain:=false }) hs:=by
 cases b
 ·exact ⟨T.ris,T.nod,T.siz,T.msk,T.low,T.fnd⟩
 ·exact T
theorem add_one (R:SetB S s.heap a L es ep t) (its:∀ p ∈ L,S.k.is s.heap p.2 p.1) {x:Addr} {k:K} (hx:S.k.is s.heap k x) (hu:A.units < cLine) (few:L.length + 1 ≤ 4000) {Q:Bool→Shared→Prop}
  (hQ:∀ b h' L' es' ep' t',Heap.SameBut a s.heap h'→SetB S h' a L' es' ep' t'→(k ∈ L.map (·.2)→L' = L)→(k ∉ L.map (·.2)→L'.Perm ((x,k) :: L))→Q b { s with heap:=h' }) :
  wpAny (model P w) A (setAddHashed a (.ref x) (S.k.hash k)) Q E s:=by
 have R0:=R
 obtain ⟨⟨o,ho,hex,hd⟩,rows,tab,nd,led,msk,room,_⟩:=R0
 have hsz:=R.size
 generalize hg:S.k.hash k = g
 unfold setAddHashed
 refine wpAny_holding ?_
 rw [show (100000:Nat) = 99999 + 1 from rfl,setAddHashedIn_succ]
 refine wpAny_bind (wpAny_setState_of ho hd R.fits ?_)
 dsimp only
 refine wp_if_neg (by simp [byScan,Value.scannable]) ?_
 try refine wpAny_bind (wpAny_pure ?_)
 refine wpAny_bind (find_to_add R its hx hu hg (fun hm => ?_) fun n hm hn hb => ?_)
 ·dsimp only
  exact wpAny_pure (hQ false s.heap L es ep t (Heap.SameBut.refl a s.heap) R (fun _ => rfl) fun z => absurd hm z)
 dsimp only
 refine wpAny_bind (wpAny_setState_of ho hd R.fits ?_)
 dsimp only
 obtain ⟨p,t1,e1,pl,T1,em,el,_,ef⟩:=tab.more hn hb
 rw [e1]
 dsimp only
 have pL:p ≤ L.length:=by simpa [hashS] using pl
 have ef':t1.fill = L.length + 1:=by simpa [hashS] using ef
 have rows1:(SetTable.insertAt es p (g,Value.ref x)).toList = rowsS S (L.take p ++ (x,k) :: L.drop p):=by
  rw [SetTable.toList_insertAt,rows_mid,rows,hg]
 have T1':TabG t1 (hashS S (L.take p ++ (x,k) :: L.drop p)):=by rw [hash_mid,hg]; exact T1
 have pm:(L.take p ++ (x,k) :: L.drop p).Perm ((x,k) :: L):=by
  have:=List.perm_middle (a:=(x,k)) (l₁:=L.take p) (l₂:=L.drop p)
  rwa [List.take_append_drop] at this
 have fin:∀ (b:Bool),wpAny (model P w) A (do
    let t:=if b = true then t1 else { t1 with plain:=false }
    storeSet a (SetTable.insertAt es p (g,Value.ref x)) t
    if (!false && t.tooFull) = true then setRelay a (SetTable.grown (es.size + 1))
    return true) Q E s:=by
  intro b
  dsimp only
  have T2:=tab_led b T1'
  have em2:(if b = true then t1 else { t1 with plain:=false }).mask = t.mask:=by cases b <;> exact em
  have el2:(if b = true then t1 else { t1 with plain:=false }).led = t.led:=by cases b <;> exact el
  have ef2:(if b = true then t1 else { t1 with plain:=false }).fill = L.length + 1:=by cases b <;> exact ef'
  generalize (if b = true then t1 else { t1 with plain:=false }) = t2 at T2 em2 el2 ef2 ⊢
  generalize SetTable.insertAt es p (g,Value.ref x) = es1 at rows1 ⊢
  have hlen:=pm.length_eq
  generalize L.take p ++ (x,k) :: L.drop p = L1 at rows1 T2 pm hlen
  simp only [List.length_cons] at hlen
  have sz1:es1.size = L.length + 1:=by rw [← Array.length_toList,rows1,← hlen]; simp [rowsS]
  have nd1:(L1.map (·.2)).Nodup:=(pm.map _).nodup_iff.mpr (by rw [List.map_cons]; exact List.nodup_cons.mpr ⟨hm,nd⟩)
  refine wpAny_bind (wpAny_storeSet_of ho hd ?_ (by rw [sz1,sizeLine_eq]; omega))
  have sb:Heap.SameBut a s.heap (s.heap.update a (Obj.putSet es1 t2)):=Heap.SameBut.update ..
  have ho1:=store_at (es':=es1) (t':=t2) ho hd
  generalize s.heap.update a (Obj.putSet es1 t2) = h1 at sb ho1 ⊢
  by_cases full:t2.tooFull = true
  ·have fl:t.mask * 3 ≤ (L.length + 1) * 5:=by
    have:=full
    unfold SetTable.tooFull at this
    rw [decide_eq_true_eq,ef2,em2] at this
    exact this
   obtain ⟨M,m1,m2,m3⟩:=next_size msk (n:=L.length + 1) (by simpa using room) fl few (by omega)
   have tailR:wpAny (model P w) A (setRelay a (SetTable.grown (es.size + 1))) (fun _ s' => wpAny (model P w) A (pure true) Q E s') E { s with heap:=h1 }:=by
    rw [hsz]
    refine relay_of (s:={ s with heap:=h1 }) ho1 ⟨hex.1,hex.2.1,hex.2.2⟩ rfl rows1 T2 nd1 (by rw [el2]; exact led) (by omega) (by rw [em2]; have:=msk.odd; omega) m1 m2 (by rw [hlen]; exact m3) ?_
    intro h2 L2 es2 ep2 t3 sb2 R2 pm2
    exact wpAny_pure (hQ true h2 L2 es2 ep2 t3 (sb.trans sb2) R2 (fun z => absurd z hm) fun _ => pm2.trans pm)
   first
    | (refine wpAny_bind ?_; exact wp_if_pos (by simp [full]) tailR)
    | exact wp_if_pos (by simp [full]) (wpAny_bind tailR)
  ·have done:Q true { s with heap:=h1 }:=by
    refine hQ true h1 L1 es1 (ep + 1) t2 sb ⟨⟨_,ho1,⟨hex.1,hex.2.1,hex.2.2⟩,rfl⟩,rows1,T2,nd1,by rw [el2]; exact led,by rw [em2]; exact msk,?_,by omega⟩ (fun z => absurd z hm) fun _ => pm
    have:=full
    unfold SetTable.tooFull at this
    rw [decide_eq_true_eq,ef2,em2] at this
    rw [hlen,em2]
    omega
   first
    | (refine wpAny_bind ?_; exact wp_if_neg (by simp [full]) (wpAny_pure (wpAny_pure done)))
    | exact wp_if_neg (by simp [full]) (wpAny_pure done)
 by_cases hpl:t1.plain = true
 ·first
   | (refine wpAny_bind ?_; refine wp_if_pos hpl ?_; exact S.byv hx fun b => fin b)
   | exact wp_if_pos hpl (wpAny_bind (S.byv hx fun b => fin b))
 ·first
   | (refine wpAny_bind ?_; refine wp_if_neg hpl ?_; exact wpAny_pure (fin true))
   | exact wp_if_neg hpl (wpAny_bind (wpAny_pure (fin true)))
end
end PLs
set_option maxHeartbeats 4000000
namespace PLs
open PySem PySem.Spec PyProof.Rows L2
section
variable {P:Program} {w:World} {K:Type} [DecidableEq K] {S:SKind P w K} {A:Around} {E:Value→Shared→Prop} {s:Shared}
variable {a:Addr} {L:List (Addr × K)} {es:Array (Int × Value)} {ep:Nat} {t:SetTable}
structure Had (ks:List (Addr × K)) (i:Nat) (L:List (Addr × K)):Prop where
 of:∀ p ∈ L,p ∈ ks.take i
 to:∀ p ∈ ks.take i,p.2 ∈ L.map (·.2)
 le:L.length ≤ i
theorem Had.none (ks:List (Addr × K)):Had ks 0 []:=⟨by simp,by simp,Nat.le_refl _⟩
theorem Had.step {ks L L':List (Addr × K)} {i:Nat} {x:Addr × K} (g:Had ks i L) (e:ks[i]? = some x) (c1:x.2 ∈ L.map (·.2)→L' = L) (c2:x.2 ∉ L.map (·.2)→L'.Perm (x :: L)):Had ks (i + 1) L':=by
 have tk:ks.take (i + 1) = ks.take i ++ [x]:=by rw [List.take_succ,e]; rfl
 by_cases c:x.2 ∈ L.map (·.2)
 ·rw [c1 c]
  refine ⟨fun p hp => by rw [tk]; exact List.mem_append_left _ (g.of p hp),fun p hp => ?_,Nat.le_succ_of_le g.le⟩
  rw [tk] at hp
  rcases List.mem_append.mp hp with z | z
  ·exact g.to p z
  ·rw [List.mem_singleton.mp z]; exact c
 ·have pm:=c2 c
  refine ⟨fun p hp => ?_,fun p hp => ?_,by rw [pm.length_eq]; exact Nat.succ_le_succ g.le⟩
  ·rw [tk]
   rcases List.mem_cons.mp (pm.mem_iff.mp hp) with z | z
   ·rw [z]; simp
   ·exact List.mem_append_left _ (g.of p z)
  ·rw [(pm.map (·.2)).mem_iff,List.map_cons]
   rw [tk] at hp
   rcases List.mem_append.mp hp with z | z
   ·exact List.mem_cons_of_mem _ (g.to p z)
   ·rw [List.mem_singleton.mp z]; simp
theorem SetB.up {h h':Heap} (R:SetB S h a L es ep t) (k:∀ o,h.get? a = some o→h'.get? a = some o):SetB S h' a L es ep t:=by
 obtain ⟨o,ho,r⟩:=R.ob
 exact ⟨⟨o,k o ho,r⟩,R.rows,R.tab,R.nd,R.led,R.msk,R.room,R.few⟩
abbrev freshObj (w:World):Obj:={ cls:=.type "set",dict:=none,data:=.set #[] 0 (.fresh 0 0 (!w.params.followText "set-order")) }
theorem SetB.new {h:Heap} (e:h.get? a = some (freshObj w)):SetB S h a [] #[] 0 (.fresh 0 0 (!w.params.followText "set-order")):=by
 refine ⟨⟨_,e,⟨rfl,rfl,rfl⟩,rfl⟩,rfl,⟨List.Pairwise.nil,rfl,rfl,⟨3,by decide,by decide,rfl⟩,fun x hx => (by cases hx),fun i h j hi => (by simp [hashS] at hi)⟩,List.nodup_nil,?_,.inl rfl,?_,Nat.zero_le _⟩
 ·show _ ∨ (!w.params.followText "set-order") = true
  cases w.params.followText "set-order"
  ·exact .inr rfl
  ·exact .inl rfl
 ·show 0 * 5 < 7 * 3
  decide
variable (S) in
def HashOk:Prop:=∀ {A:Around} {E:Value→Shared→Prop} {s:Shared} {x:K} {b:Addr} {Q:Int→Shared→Prop},A.units < cLine→S.k.is s.heap x b→(∀ tk,s.toks ≤ tk→Q (S.k.hash x) { s with toks:=tk })→wpAny (model P w) A (pyHash (.ref b)) Q E s
theorem hash_ok:HashOk S:=fun hu hx h => S.k.pyHash (S.roomy hu) hx (h _ (Nat.le_add_right _ _))
end
end PLs
set_option maxHeartbeats 4000000
namespace PLs
open PySem PySem.Spec PyProof.Rows PySem.W L2
def kk:Key→Int ⊕ List Nat
 | .inl i => .inl i
 | .inr x => .inr x.cps.toList
theorem kk_inj {a b:Key} (h:kk a = kk b):a = b:=by
 cases a with
 | inl i => cases b with
  | inl j => exact congrArg Sum.inl (Sum.inl.inj h)
  | inr y => cases h
 | inr x => cases b with
  | inl j => cases h
  | inr y =>
   have e:x.cps = y.cps:=Array.toList_inj.mp (Sum.inr.inj h)
   cases x; cases y
   simp only at e
   rw [e]
def kLt (x y:List Key):Bool:=lexLt itemOrd (x.map kk) (y.map kk)
theorem kLt_irr (x:List Key):kLt x x = false:=(listOrd itemOrd).irrefl _
theorem kLt_tr {x y z:List Key} (h:kLt x y = true) (h':kLt y z = true):kLt x z = true:=(listOrd itemOrd).trans _ _ _ h h'
theorem kLt_asym {x y:List Key} (h:kLt x y = true):kLt y x = false:=by
 cases e:kLt y x with
 | false => rfl
 | true => have:=kLt_tr h e; rw [kLt_irr] at this; cases this
theorem kLt_neg {x y z:List Key} (h:kLt y x = false) (h':kLt z y = false):kLt z x = false:=by
 cases e:kLt z x with
 | false => rfl
 | true =>
  rcases (listOrd itemOrd).negTrans _ (y.map kk) _ e with q | q
  ·rw [show kLt z y = true from q] at h'; cases h'
  ·rw [show kLt y x = true from q] at h; cases h
theorem map_kk_inj:∀ {x y:List Key},x.map kk = y.map kk→x = y
 | [],[],_ => rfl
 | [],_ :: _,h => by simp at h
 | _ :: _,[],h => by simp at h
 | a :: x,b :: y,h => by
  simp only [List.map_cons,List.cons.injEq] at h
  rw [kk_inj h.1,map_kk_inj h.2]
theorem kLt_tot {x y:List Key} (h:kLt x y = false) (h':kLt y x = false):x = y:=map_kk_inj ((listOrd itemOrd).total _ _ h h')
section
variable {P:Program} {w:World} {A:Around} {E:Value→Shared→Prop} {s:Shared}
abbrev IsT2 (P:Program) (w:World) (h:Heap) (k:List Key) (a:Addr):Prop:=IsTupleKey (mixKind P w) h k a
def VT (P:Program) (w:World) (h:Heap) (k:List Key) (v:Value):Prop:=∃ a,v = .ref a∧IsT2 P w h k a
theorem VT.keeps {h h':Heap} {k:List Key} {v:Value} (x:VT P w h k v) (e:∀ b o,h.get? b = some o→o.cls = .type "tuple"→h'.get? b = some o):VT P w h' k v:=by
 obtain ⟨a,rfl,o,its,n,ho,hc,r⟩:=x
 exact ⟨a,rfl,o,its,n,e a o ho hc,hc,r⟩
end
end PLs
set_option maxHeartbeats 4000000
namespace PLs
open PySem PySem.Spec PyProof.Rows L2
section
variable {P:Program} {w:World}
theorem flat_items {k:List Key} {vs:List Value} (h:ItemsAre (mixKind P w) k vs):∀ v ∈ vs,(∃ i t,v = Value.int i t) ∨ ∃ x t,v = Value.str x t:=by
 induction h with
 | nil => intro v hv; cases hv
 | @cons k0 v' ks us h1 _ ih =>
  intro v hv
  rcases List.mem_cons.mp hv with e | hv
  ·subst e
   rcases keyIs_shape h1 with ⟨i,t,_,rfl⟩ | ⟨x,t,_,rfl⟩
   ·exact .inl ⟨i,t,rfl⟩
   ·exact .inr ⟨x,t,rfl⟩
  ·exact ih v hv
theorem flat_cls {A:Around} {E:Value→Shared→Prop} {s:Shared} {k:List Key} {b:Addr} {Q:Bool→Shared→Prop} (hk:IsT2 P w s.heap k b) (h:Q false s):wpAny (model P w) A (ofAClassStatement 8 (.ref b)) Q E s:=by
 have ty:=hk.typeIs
 obtain ⟨o,its,n,ho,_,hd,hi⟩:=hk
 have ei:∀ n i t,ofAClassStatement n (.int i t) = pure false:=fun n i t => by cases n <;> rfl
 have es:∀ n x t,ofAClassStatement n (.str x t) = pure false:=fun n i t => by cases n <;> rfl
 unfold ofAClassStatement
 refine wpAny_bind (wpAny_typeOf ty ?_)
 dsimp only
 have e:(("tuple" : String) == "tuple") = true:=by decide
 simp only [e,if_true,Bool.not_true,Bool.false_eq_true,if_false]
 try refine wpAny_bind (wpAny_pure ?_)
 try simp only [Bool.not_true,Bool.false_eq_true,if_false]
 show wpAny _ _ (seqItems? (.ref b) >>= _) _ _ s
 refine wpAny_bind (wpAny_seqItems ho hd ?_)
 dsimp only
 refine wpAny_bind ?_
 show wpAny _ _ (forIn its _ _) _ _ s
 rw [← Array.forIn_toList]
 refine wpAny_forIn_list _ (fun left r s' => s' = s∧r.1 = none∧∀ v ∈ left,(∃ i t,v = Value.int i t) ∨ ∃ x t,v = Value.str x t) _ ?_ ?_ _ _ ⟨rfl,rfl,flat_items hi⟩
 ·rintro v left r s' ⟨q,hr,all⟩
  subst q
  have more:∀ u ∈ left,(∃ i t,u = Value.int i t) ∨ ∃ x t,u = Value.str x t:=fun u hu => all u (by simp [hu])
  rcases all v (by simp) with ⟨i,t,rfl⟩ | ⟨x,t,rfl⟩
  ·rw [ei]
   refine wpAny_bind (wpAny_pure ?_)
   simp only [Bool.false_eq_true,if_false]
   exact wpAny_pure ⟨rfl,rfl,more⟩
  ·rw [es]
   refine wpAny_bind (wpAny_pure ?_)
   simp only [Bool.false_eq_true,if_false]
   exact wpAny_pure ⟨rfl,rfl,more⟩
 ·rintro ⟨r1,r2⟩ s' ⟨q,hr,_⟩
  subst q
  simp only at hr
  subst hr
  exact wpAny_pure h
theorem flat_byv {A:Around} {E:Value→Shared→Prop} {s:Shared} {k:List Key} {b:Addr} {Q:Bool→Shared→Prop} (hk:IsT2 P w s.heap k b) (h:∀ c,Q c s):wpAny (model P w) A (hashByValue 8 (.ref b)) Q E s:=by
 have ty:=hk.typeIs
 obtain ⟨o,its,n,ho,_,hd,hi⟩:=hk
 have ei:∀ n i t,hashByValue n (.int i t) = pure true:=fun n i t => by cases n <;> rfl
 have es:∀ n x t,hashByValue n (.str x t) = pure false:=fun n i t => by cases n <;> rfl
 unfold hashByValue
 refine wpAny_bind (wpAny_specialOf ty F.slot_tuple_hash.lookup ?_)
 show wpAny _ _ (seqItems? (.ref b) >>= _) _ _ s
 refine wpAny_bind (wpAny_seqItems ho hd ?_)
 refine wpAny_bind ?_
 show wpAny _ _ (forIn its _ _) _ _ s
 rw [← Array.forIn_toList]
 refine wpAny_forIn_list _ (fun left r s' => s' = s∧(r.1 = none ∨ r.1 = some false)∧∀ v ∈ left,(∃ i t,v = Value.int i t) ∨ ∃ x t,v = Value.str x t) _ ?_ ?_ _ _ ⟨rfl,.inl rfl,flat_items hi⟩
 ·rintro v left r s' ⟨q,hr,all⟩
  subst q
  have more:∀ u ∈ left,(∃ i t,u = Value.int i t) ∨ ∃ x t,u = Value.str x t:=fun u hu => all u (by simp [hu])
  rcases all v (by simp) with ⟨i,t,rfl⟩ | ⟨x,t,rfl⟩
  ·rw [ei]
   refine wpAny_bind (wpAny_pure ?_)
   simp only [Bool.not_true,Bool.false_eq_true,if_false]
   exact wpAny_pure ⟨rfl,.inl rfl,more⟩
  ·rw [es]
   refine wpAny_bind (wpAny_pure ?_)
   simp only [Bool.not_false,if_true]
   exact wpAny_pure (wpAny_pure (h _))
 ·rintro ⟨r1,r2⟩ s' ⟨q,hr,_⟩
  subst q
  simp only at hr
  rcases hr with hr | hr <;> subst hr <;> exact wpAny_pure (h _)
theorem flat_same {h h':Heap} {k:List Key} {a b:Addr} {o:Obj} {es:Array (Int × Value)} {ep:Nat} {t:SetTable} (hk:IsT2 P w h k b) (ho:h.get? a = some o) (hd:o.data = .set es ep t) (sb:Heap.SameBut a h h'):IsT2 P w h' k b:=by
 obtain ⟨o',its,n,ho',hc,hd',hi⟩:=hk
 refine ⟨o',its,n,(sb.2 b fun z => ?_).trans ho',hc,hd',hi⟩
 subst z
 have:o' = o:=Option.some.inj (ho'.symm.trans ho)
 rw [this,hd] at hd'
 cases hd'
def flatK (P:Program) (w:World):SKind P w (List Key) where
 k:=tupleKind (mixKind P w)
 same:=fun hk ho hd sb => flat_same hk ho hd sb
 keep:=fun ⟨o,its,n,ho,r⟩ k => ⟨o,its,n,k _ _ ho,r⟩
 cls:=fun hk h => flat_cls hk h
 byv:=fun hk h => flat_byv hk h
 roomy:=fun h => h
def SetO (P:Program) (w:World) (a:Addr) (L:List (Addr × List Key)):HO:=.ext fun h => ∃ es ep t,SetB (flatK P w) h a L es ep t
theorem setO_new {H:Hp} {h:Heap} {a:Addr} {L:List (Addr × List Key)} {es:Array (Int × Value)} {ep:Nat} {t:SetTable} (B:SetB (flatK P w) h a L es ep t):ObjOk P w H h a (SetO P w a L):=by
 obtain ⟨o,ho,r⟩:=B.ob
 exact ⟨⟨es,ep,t,B⟩,⟨o,ho⟩,fun h1 h2 ⟨es',ep',t',B'⟩ k => ⟨es',ep',t',B'.up k⟩⟩
end
theorem items_kV {P:Program} {w:World}:∀ {k:List Key} {us:List Value},Vals (k.map kV) us→ItemsAre (mixKind P w) k us
 | [],_,.nil => .nil
 | .inl i :: k,_,.cons r t => by
  obtain ⟨tk,rfl⟩:=r
  exact .cons (mixKind_int P w i tk) (items_kV t)
 | .inr x :: k,_,.cons r t => by
  obtain ⟨tk,rfl⟩:=r
  exact .cons (mixKind_str P w x tk) (items_kV t)
section
variable {X:Cx}
theorem inv_tup {pins:List (Addr × Obj)} {σ : L2.St} {H:Hp} {s:Shared} {b:Addr} {k:List Key} (I:Inv X pins σ H s) (h:SqT X.K H b (k.map kV)):IsT2 X.prog X.w s.heap k b:=by
 obtain ⟨its,r,⟨o,ho,hc,n,hd⟩,_⟩:=I.tuple h
 exact ⟨o,its.toArray,n,ho,hc,hd,by simpa using items_kV r⟩
end
end PLs
set_option maxHeartbeats 4000000
namespace PL
open PySem PySem.Spec PyProof.Rows L2 PLs
abbrev TK:=List Key
def kP:Key→PV
 | .inl i => .int i
 | .inr x => .str x
theorem keyP_eq {p:PV} {k:Key} (h:keyP p = some k):p = kP k:=by
 cases p <;> simp [keyP] at h <;> subst h <;> rfl
@[simp] theorem keyP_kP (k:Key):keyP (kP k) = some k:=by cases k <;> rfl
theorem keysP_eq:∀ {xs:List PV} {ks:TK},keysP xs = some ks→xs = ks.map kP
 | [],ks,h => by cases h; rfl
 | x :: xs,ks,h => by
  unfold keysP at h
  cases q:keyP x with
  | none => rw [q] at h; cases h
  | some k =>
   cases q2:keysP xs with
   | none => rw [q,q2] at h; cases h
   | some r =>
    rw [q,q2] at h
    cases h
    rw [keyP_eq q,keysP_eq q2]; rfl
@[simp] theorem keysP_kP:∀ ks:TK,keysP (ks.map kP) = some ks
 | [] => rfl
 | k :: ks => by simp [keysP,keysP_kP ks]
def Asc (ks:List TK):Prop:=ks.Pairwise fun a b => kLt b a = false
noncomputable def sortT (ks:List TK):List TK:=ks.mergeSort fun a b => !kLt b a
open Classical in
noncomputable def dedupT:List TK→List TK
 | [] => []
 | k :: r => if k ∈ r then dedupT r else k :: dedupT r
theorem mem_dedup {x:TK}:∀ {ks:List TK},x ∈ dedupT ks↔x ∈ ks
 | [] => Iff.rfl
 | k :: r => by
  unfold dedupT
  split
  ·rename_i h
   rw [mem_dedup (ks:=r)]
   constructor
   ·intro q; exact List.mem_cons_of_mem _ q
   ·intro q
    rcases List.mem_cons.mp q with e | e
    ·rw [e]; exact h
    ·exact e
  ·rw [List.mem_cons,List.mem_cons,mem_dedup (ks:=r)]
theorem nodup_dedup:∀ ks:List TK,(dedupT ks).Nodup
 | [] => List.nodup_nil
 | k :: r => by
  unfold dedupT
  split
  ·exact nodup_dedup r
  ·rename_i h
   exact List.nodup_cons.mpr ⟨fun q => h (mem_dedup.mp q),nodup_dedup r⟩
theorem sortT_perm (ks:List TK):(sortT ks).Perm ks:=List.mergeSort_perm ..
theorem sortT_asc (ks:List TK):Asc (sortT ks):=by
 have:=List.pairwise_mergeSort (le:=fun a b:TK => !kLt b a) (fun a b c h1 h2 => by
  simp only [Bool.not_eq_true',Bool.not_eq_eq_eq_not,Bool.not_true] at h1 h2 ⊢
  exact kLt_neg h1 h2) (fun a b => by
  cases e:kLt b a with
  | false => simp
  | true => simp [kLt_asym e]) ks
 exact this.imp fun h => by simpa using h
theorem asc_uniq:∀ {a b:List TK},Asc a→Asc b→a.Perm b→a = b
 | [],b,_,_,h => (List.Perm.eq_nil h.symm).symm
 | x :: a,[],_,_,h => by have:=h.length_eq; simp at this
 | x :: a,y :: b,ha,hb,h => by
  have ha':=List.pairwise_cons.mp ha
  have hb':=List.pairwise_cons.mp hb
  have e:x = y:=by
   have hx:=h.mem_iff.mp (List.mem_cons_self (a:=x) (l:=a))
   have hy:=h.mem_iff.mpr (List.mem_cons_self (a:=y) (l:=b))
   rcases List.mem_cons.mp hx with q | q
   ·exact q
   ·rcases List.mem_cons.mp hy with z | z
    ·exact z.symm
    ·exact kLt_tot (hb'.1 x q) (ha'.1 y z)
  subst e
  rw [asc_uniq ha'.2 hb'.2 h.cons_inv]
theorem sortT_uniq {a ks:List TK} (ha:Asc a) (h:a.Perm ks):a = sortT ks:=asc_uniq ha (sortT_asc ks) (h.trans (sortT_perm ks).symm)
theorem set_uniq {a ks:List TK} (ha:Asc a) (nd:a.Nodup) (h:∀ x,x ∈ a↔x ∈ ks):a = sortT (dedupT ks) :=
 sortT_uniq ha ((List.perm_ext_iff_of_nodup nd (nodup_dedup ks)).mpr fun x => by rw [h,mem_dedup])
theorem mem_sortset {x:TK} {ks:List TK}:x ∈ sortT (dedupT ks)↔x ∈ ks:=by rw [(sortT_perm _).mem_iff,mem_dedup]
theorem nodup_sortset (ks:List TK):(sortT (dedupT ks)).Nodup:=(sortT_perm _).nodup_iff.mpr (nodup_dedup ks)
section
variable {K:PySem.W.Frag} {ι : List Addr} {H:Hp}
theorem rpl_kP:∀ {k:TK} {vs:List V},RpL K ι H (k.map kP) vs→vs = k.map kV
 | [],vs,h => h
 | .inl i :: k,vs,h => by
  obtain ⟨v,r,rfl,h1,h2⟩:=h
  rw [rpl_kP h2,show v = V.int i from h1]; rfl
 | .inr x :: k,vs,h => by
  obtain ⟨v,r,rfl,h1,h2⟩:=h
  rw [rpl_kP h2,show v = V.str x from h1]; rfl
theorem rpl_of_kV:∀ k:TK,RpL K ι H (k.map kP) (k.map kV)
 | [] => rfl
 | .inl i :: k => ⟨.int i,_,rfl,rfl,rpl_of_kV k⟩
 | .inr x :: k => ⟨.str x,_,rfl,rfl,rpl_of_kV k⟩
end
section
variable {X:Cx} {W:WX} {a:Expr} {ma:EM PV} {p p2 q pos:Pos}
end
section
variable {P:PV→Sto→Prop} {R:Str→PV→Sto→Prop} {S:Sto} {l:Nat} {ks:List TK}
end
end PL
set_option maxHeartbeats 4000000
namespace PLz
open PySem PySem.Spec PyProof.Rows L2
def RawB (k:Bool) (h:Heap) (a:Addr) (its:Array Value):Prop:=match k with
 | true => h.IsTuple a its
 | false => h.IsList a its
def IterB (k:Bool) (h:Heap) (it a:Addr) (i:Nat):Prop:=match k with
 | true => h.IsTupleIter it a i
 | false => h.IsListIter it a i
theorem IterB.ob {k:Bool} {h:Heap} {it a:Addr} {i:Nat} (x:IterB k h it a i):∃ o,h.get? it = some o∧∀ v,o.data ≠ .cell v:=by
 cases k <;> obtain ⟨o,ho,_,hd⟩:=x <;> exact ⟨o,ho,fun v q => by rw [hd] at q; cases q⟩
theorem IterB.to {k:Bool} {h h':Heap} {it a:Addr} {i:Nat} (x:IterB k h it a i) (e:∀ o,h.get? it = some o→h'.get? it = some o):IterB k h' it a i:=by
 cases k <;> obtain ⟨o,ho,r⟩:=x <;> exact ⟨o,e o ho,r⟩
theorem RawB.to {k:Bool} {h h':Heap} {a:Addr} {its:Array Value} (x:RawB k h a its) (e:∀ o,h.get? a = some o→h'.get? a = some o):RawB k h' a its:=by
 cases k <;> obtain ⟨o,ho,r⟩:=x <;> exact ⟨o,e o ho,r⟩
section
variable {X:Cx} {pins:List (Addr × Obj)} {s:Shared} {σ : L2.St} {H:Hp}
end
section
variable {prog:Program} {w:World} {A:Around} {E:Value→Shared→Prop} {s:Shared}
end
theorem RawB.lt {k:Bool} {h:Heap} {a:Addr} {its:Array Value} (r:RawB k h a its):a < h.objs.size:=by
 cases k <;> obtain ⟨o,ho,_⟩:=r <;> exact Heap.lt_size ho
end PLz
set_option maxHeartbeats 4000000
namespace PLz
open PySem PySem.Spec PyProof.Rows L2
end PLz
namespace PL
open PySem PySem.Spec PyProof.Rows L2 PLz
section
variable {X:Cx} {W:WX} {a b:Expr} {ma mb:EM PV} {pos:Pos}
end
end PL
namespace PL
open PySem PySem.Spec PyProof.Rows L2 PLz
end PL
set_option maxHeartbeats 4000000
namespace PL
open PySem PySem.Spec PyProof.Rows L2
section
variable {X:Cx} {W:WX} {e se:Expr} {me ms:EM PV} {p3 pos:Pos}
end
section
variable {P:PV→Sto→Prop} {R:Str→PV→Sto→Prop} {S:Sto} {l:Nat} {xs:List PV}
end
end PL
namespace PL
open PySem PySem.Spec PyProof.Rows L2
section
variable {X:Cx} {W:WX} {e:Expr} {es:List Expr} {ma:EM PV} {pos:Pos}
open PySem.W in
theorem star_items {s:Shared} {l:Addr} {items:Array Value} {n:Nat} {Q:List Value→Shared→Prop} (hh:X.A.handled = none) (hl:IsTup s.heap l items) (hn:n ≤ items.size) (hz:items.size ≤ 16384)
  (h:∀ (h':Heap) (tk:Nat),(∀ b o,s.heap.get? b = some o→h'.get? b = some o)→Q (items.toList.take n ++ [.ref h'.objs.size]) { s with heap:=h'.push { cls:=.type "list",data:=.seq (items.toList.drop n).toArray },toks:=tk }) :
  wpAny (model X.prog X.w) X.A (unpackItems (.ref l) (n + 1) (some n)) Q X.xe s:=by
 have hlt:l ≠ s.heap.objs.size:=by obtain ⟨o,ho,_⟩:=hl; exact Nat.ne_of_lt (Heap.lt_size ho)
 unfold unpackItems
 refine wpAny_bind ?_
 unfold notIterableAtAll
 refine wpAny_bind (wpAny_specialOf hl.typeIs slot_tuple_iter.lookup ?_)
 refine wpAny_pure ?_
 simp only [Bool.false_eq_true,if_false]
 refine wpAny_bind (wpAny_holding (iter_tuple hl ?_))
 refine wpAny_bind (wpAny_holding (draw_tuple hlt n 0 _ _ ⟨_,Heap.get?_push_size _ rfl,rfl,rfl⟩ (hl.push _) (by omega) fun h₁ hit₁ hs₁ => ?_))
 have hl₁ : IsTup h₁ l items:=(hl.push _).extBut hs₁.extBut hlt
 rw [Nat.zero_add] at hit₁
 have hit₁':=hit₁
 obtain ⟨oi,hoi,_⟩:=hit₁'
 have hl₁':=hl₁
 obtain ⟨ol,hol,_⟩:=hl₁'
 rw [List.drop_zero]
 have hfl:(items.toList.take n).length = n:=by rw [List.length_take,Array.length_toList]; omega
 rw [if_neg (show ¬ ((items.toList.take n).length < n) by rw [hfl]; omega)]
 refine wpAny_bind (wpAny_holding (kun_collect (s:={ s with heap:=h₁ }) (T := "tuple_iterator") (.inr (.inr (.inr rfl))) (Walks.tuple (A:=X.A.in1) hh s.heap.objs.size l hlt items) (fun j u st => st.1.typeIs) (k:=n) (by omega) ⟨hit₁,hl₁⟩ (Heap.lt_size hoi) (Heap.lt_size hol) (fun h₂ tk hk => ?_) (by rw [sizeLine_eq]; omega)))
 have hrl:(items.toList.drop n).length = items.size - n:=by rw [List.length_drop,Array.length_toList]
 have hmid:(items.toList.drop n).length - (n + 1 - 1 - n) = items.size - n:=by rw [hrl]; omega
 show wpAny _ _ (if (items.toList.drop n).length < n + 1 - 1 - n then _ else _) _ _ _
 rw [if_neg (by rw [hrl]; omega)]
 show wpAny _ _ (newList ((items.toList.drop n).take ((items.toList.drop n).length - (n + 1 - 1 - n))) >>= fun d => pure (items.toList.take n ++ [d] ++ (items.toList.drop n).drop ((items.toList.drop n).length - (n + 1 - 1 - n)))) _ _ _
 rw [hmid,← hrl,List.take_length,List.drop_length]
 have he:∀ b o,s.heap.get? b = some o→h₂.get? b = some o:=fun b o e => hk b o (Nat.ne_of_lt (Heap.lt_size e)) (hs₁.extBut b o (Nat.ne_of_lt (Heap.lt_size e)) (Heap.get?_push_of_some _ e))
 refine wpAny_bind (wpAny_newList ?_ (by rw [sizeLine_eq,hrl]; omega))
 refine wpAny_pure ?_
 rw [List.append_nil]
 exact h h₂ tk he
def gStar (K:PySem.W.Frag) (n:Nat) (t:TGs):TG:=fun v σ H Q => ∃ a xs,v = .ref a∧SqT K H a xs∧n ≤ xs.length∧xs.length ≤ 16384∧∀ p,H p = none→t (xs.take n ++ [.ref p]) σ (upd H p (.lst (xs.drop n))) Q
theorem pgs_as {ts ts':List Expr} {t:TGs} (h:PGs X ts' t) (e:(assignEach ts X.env).map (·.2) = (assignEach ts' X.env).map (·.2)):PGs X ts t:=⟨fun pins s σ H vs us Q I r q => by rw [e]; exact h.run pins s σ H vs us Q I r q⟩
theorem pg_star {k n:Nat} {t:TGs} (hc:X.calm = true) (h:PGs X es t) (hn:(assignEach es X.env).length = n + 1) (hst:(assignEach es X.env).findIdx? (·.1) = some n):PG X (.Tuple es k pos) (gStar X.K n t):=by
 refine ⟨fun pins s σ H v u Q I r q => ?_⟩
 obtain ⟨a,xs,rfl,hx,hl,hz,q⟩:=q
 cases r
 obtain ⟨its,rv,ht,_⟩:=I.tuple hx
 have hlen:=rv.length
 unfold assign
 refine wpAny_bind (wpAny_standAt ?_)
 unfold unpack
 simp only [hn,hst]
 refine wpAny_bind (wpAny_holding (star_items (n:=n) (I.ok.hd hc) ht (by rw [List.size_toArray]; omega) (by rw [List.size_toArray]; omega) fun h' tk hk => ?_))
 have I2:Inv X pins σ H { s with heap:=h' }:=I.kept (t':=s.toks) hk
 have rt:Vals (xs.take n) (its.take n):=rv.take n
 have rd:Vals (xs.drop n) (its.drop n):=rv.drop n
 have I3:=I2.laid (t':=tk) (o:=.lst (xs.drop n)) (h':=h'.push { cls:=.type "list",data:=.seq (its.drop n).toArray }) (a:=h'.objs.size) (fun b ob q => Heap.get?_push_of_some _ q) (Nat.le_refl _) ⟨by rw [List.length_drop]; rw [sizeLine_eq]; omega,_,0,rd,Heap.get?_push_size _ rfl⟩
 exact h.run pins _ σ _ _ _ Q I3 (rt.append (.cons (show RelV (.ref h'.objs.size) (.ref h'.objs.size) from rfl) .nil)) (q _ (I2.hok.fresh (Nat.le_refl _)))
end
section
variable {N:En→Sto→Prop} {T:PV→Sto→Prop} {R:Str→PV→En→Sto→Prop} {τ : En} {S:Sto}
end
end PL
namespace PL
open PySem PySem.Spec PyProof.Rows L2
section
variable {X:Cx} {W:WX} {e o f:Expr} {ma mo mf:EM PV} {pos:Pos}
def splitP:OpM:=fun p ps S => match p,ps with
 | .str a,[.str b] => if (b.length == 0) = false∧a.length + 2 ≤ 16777216 then some (.loc S.length,S ++ [.lst ((Txt.split a b).map PV.str)]) else none
 | _,_ => none
theorem RpL.strs {K:PySem.W.Frag} {ι : List Addr} {H:Hp}:∀ ns:List Str,RpL K ι H (ns.map PV.str) (ns.map V.str)
 | [] => rfl
 | n :: ns => ⟨_,_,rfl,rfl,RpL.strs ns⟩
theorem om_split:MtR X "str.split" (gMt X splitP):=by
 intro pins s σ H x xs v us Q I rx rxs ⟨ι,S,p,ps,w,S',rs,rp,rps,hf,k⟩
 unfold splitP at hf
 split at hf
 ·rename_i a b
  split at hf
  ·rename_i hl
   cases hf
   cases (show x = _ from rp)
   obtain ⟨y,rfl,h2⟩:=rpl1 rps
   cases (show y = _ from h2)
   refine mt_split pins s σ H _ _ v us Q I rx rxs ⟨a,b,rfl,rfl,hl.1,by rw [sizeLine_eq]; exact hl.2,fun p hp => ?_⟩
   obtain ⟨E,r4,q4⟩:=rs.new_lst hp (RpL.strs (Txt.split a b))
   exact k _ _ _ E r4 q4
  ·cases hf
 ·cases hf
def setdP (o i v:PV) (S:Sto):Option Sto:=match o with
 | .loc l => match S[l]?,keyP i with | some (.dct kvs),some k => if kvs.length < 16777216 then some (S.set l (.dct (putP kvs k v))) else none | _,_ => none
 | _ => none
def setdS (m mo mi:EM PV):SM:=fun τ S => bndS (m τ S) τ fun v S1 => bndS (mo τ S1) τ fun o S2 => bndS (mi τ S2) τ fun i S3 => match setdP o i v S3 with | some S4 => .nx τ S4 | none => .bad
theorem rs_subd {i:Expr} {mi:EM PV} {pos':Pos} (hu:X.A.units + 1 < cLine) (he:RE X W e ma) (ho:RE X W o mo) (hi:RE X W i mi)
  (hs:swapsWithSole [.Subscript o i pos'] e pos.line X.env = pure false:=by rfl) (hw:swappedStores [.Subscript o i pos'] e X.env = pure none:=by rfl)
  (h1:(assignEach [.Subscript o i pos'] X.env).map (·.2) = [assign (.Subscript o i pos') X.env]:=by rfl)
  (ha:∀ v,assign (.Subscript o i pos') X.env v = (do
   let ov ← holding [v] (eval o X.env)
   let iv ← holding [v,ov] (eval i X.env)
   standAt pos'
   holding [v,ov,iv] (setItem ov iv v)
   release [v,ov,iv] []):=by intro _; rfl):RS X W (.Assign [.Subscript o i pos'] e pos) (setdS ma mo mi):=by
 refine ⟨ps_weak (ps_asg he.pe (pg_sub ho.pe hi.pe (set_dict hu) ha) hs hw h1) fun D σ H h => ?_⟩
 obtain ⟨ι,τ,S,r,ρ,pk⟩:=h
 refine ⟨ι,τ,S,r,ρ,(PkS.next (R:=rV X) ρ pk).mono fun x H1 ⟨p,ι1,S1,e1,r1,q1,pk1⟩ => ?_⟩
 refine ⟨ι1,τ,S1,r1,ρ.up e1,(PkS.next (R:=rV X) (ρ.up e1) pk1).mono fun y H2 ⟨q,ι2,S2,e2,r2,q2,pk2⟩ => ?_⟩
 refine ⟨ι2,τ,S2,r2,(ρ.up e1).up e2,(PkS.next (R:=rV X) ((ρ.up e1).up e2) pk2).mono fun z H3 ⟨i,ι3,S3,e3,r3,q3,pk3⟩ => ?_⟩
 have ρ3:=((ρ.up e1).up e2).up e3
 have q1:=(q1.up e2).up e3
 have q2:=q2.up e3
 unfold setdP at pk3
 split at pk3
 ·rename_i S4 hS
  split at hS
  ·split at hS
   ·rename_i kvs k eS ek
    split at hS
    ·rename_i hl
     cases hS
     obtain ⟨a,rfl,h1⟩:=q2
     obtain ⟨vs,h2,h3⟩:=r3.obj _ a _ h1 eS
     obtain ⟨E,r4⟩:=r3.wdct h1 (h3.put (k:=k) q1)
     exact ⟨a,_,rfl,.inl ⟨vs,k,h2,keyP_rp ek q3,by rw [← h3.length,sizeLine_eq]; exact hl,rfl⟩,pk3 _ _ _ E r4 (ρ3.up E)⟩
    ·cases hS
   ·cases hS
  ·cases hS
 ·exact pk3.elim
def newDO (S:Sto):Out PV:=.ok (.loc S.length) (S ++ [.dct []])
def pairsM:List (EM PV × EM PV)→En→Sto→Out (List (PV × PV))
 | [],_,S => .ok [] S
 | (a,b) :: r,τ,S => bnd (a τ S) fun x S1 => bnd (b τ S1) fun y S2 => bnd (pairsM r τ S2) fun ps S3 => .ok ((x,y) :: ps) S3
def keysOf:List (PV × PV)→Option (List (Key × PV))
 | [] => some []
 | (k,v) :: r => (keyP k).bind fun kk => (keysOf r).map fun ks => (kk,v) :: ks
def isD0 (l:Nat) (S:Sto):Bool:=match S[l]? with | some (.dct []) => true | _ => false
def dispO (p:PV) (ps:List (PV × PV)) (S:Sto):Out PV:=match p,keysOf ps with
 | .loc l,some kvs => if isD0 l S = true∧kvs.length ≤ 15 then .ok (.loc l) (S.set l (.dct (mergeP [] kvs))) else .bad
 | _,_ => .bad
def disp1 (kes:List (EM PV × EM PV)) (τ : En) (p:PV) (S:Sto):Out PV:=bnd (pairsM kes τ S) (dispO p)
def dispM (kes:List (EM PV × EM PV)):EM PV:=fun τ S => bnd (newDO S) (disp1 kes τ)
abbrev rP (X:Cx):RR (List (PV × PV)) (List (V × V)):=fun ι H ps xs => RpL X.K ι H (ps.map (·.1)) (xs.map (·.1))∧RpL X.K ι H (ps.map (·.2)) (xs.map (·.2))
def gP (X:Cx) (W:WX) (kes:List (EM PV × EM PV)):List (TE × TE):=kes.map fun ab => (gE X W (rV X) ab.1,gE X W (rV X) ab.2)
theorem pairs_read:∀ (kes:List (EM PV × EM PV)) (σ : L2.St) (ι : List Addr) (H:Hp) (τ : En) (S:Sto) (Q:List (V × V)→Hp→Prop),RSt X.prog X.w X.K X.mg ι H S→REn X.K ι H τ σ→Pk X W (rP X) σ Q ι H (pairsM kes τ S)→tPairs (gP X W kes) σ H Q
 | [],σ,ι,H,τ,S,Q,r,ρ,pk => pk ι H [] .refl r ⟨rfl,rfl⟩
 | (a,b) :: kes,σ,ι,H,τ,S,Q,r,ρ,pk =>
  ⟨ι,τ,S,r,ρ,(Pk.next (R:=rV X) pk).mono fun x H1 ⟨p,ι1,S1,e1,r1,q1,pk1⟩ =>
   ⟨ι1,τ,S1,r1,ρ.up e1,(Pk.next (R:=rV X) pk1).mono fun y H2 ⟨q,ι2,S2,e2,r2,q2,pk2⟩ =>
    pairs_read kes σ ι2 H2 τ S2 _ r2 ((ρ.up e1).up e2) ((Pk.next (R:=rP X) pk2).mono fun ps H3 ⟨w,ι3,S3,e3,r3,q3,pk3⟩ =>
     pk3 ι3 H3 _ .refl r3 ⟨⟨_,_,rfl,(q1.up e2).up e3,q3.1⟩,⟨_,_,rfl,q2.up e3,q3.2⟩⟩)⟩⟩
theorem keysOf_rp {K:PySem.W.Frag} {ι : List Addr} {H:Hp}:∀ {ps:List (PV × PV)} {kvs:List (Key × PV)} {xs:List (V × V)},keysOf ps = some kvs→RpL K ι H (ps.map (·.1)) (xs.map (·.1))→RpL K ι H (ps.map (·.2)) (xs.map (·.2)) →
  ∃ ws:List (Key × V),xs = ws.map (fun kv => (kV kv.1,kv.2))∧RpF K ι H kvs ws
 | [],kvs,xs,h,r1,_ => by
  cases h
  have:xs = []:=by
   have:xs.map (·.1) = []:=r1
   simpa using this
  subst this
  exact ⟨[],rfl,rfl⟩
 | (k,v) :: ps,kvs,xs,h,r1,r2 => by
  simp only [keysOf,Option.bind_eq_some_iff,Option.map_eq_some_iff] at h
  obtain ⟨kk,hk,ks,hks,rfl⟩:=h
  cases xs with
  | nil => obtain ⟨_,_,e,_⟩:=r1; cases e
  | cons x xs =>
   obtain ⟨_,_,e1,a1,a2⟩:=r1
   obtain ⟨_,_,e2,b1,b2⟩:=r2
   simp only [List.map_cons,List.cons.injEq] at e1 e2
   obtain ⟨rfl,rfl⟩:=e1
   obtain ⟨rfl,rfl⟩:=e2
   obtain ⟨ws,rfl,w2⟩:=keysOf_rp hks a2 b2
   have:=keyP_rp hk a1
   obtain ⟨x1,x2⟩:=x
   simp only at this
   subst this
   exact ⟨(kk,x2) :: ws,rfl,_,_,rfl,b1,w2⟩
theorem re_disp {keys:List (Option Expr)} {values:List Expr} {kes:List (EM PV × EM PV)} (h:PPs X pos keys values (gP X W kes)) (hall:keys.all (·.isSome) = true:=by rfl) (hl:keys.length = values.length:=by rfl) (h0:keys ≠ []:=by nofun) (h15:keys.length ≤ 15:=by decide) :
  RE X W (.Dict keys values pos) (dispM kes):=by
 refine ⟨pe_weak (pe_disp h hall hl h0 h15) fun σ H Q ⟨ι,τ,S,r,ρ,pk⟩ p hp => ?_⟩
 obtain ⟨E,r2,q2⟩:=r.new_dct hp (xs:=[]) (vs:=[]) rfl
 have pk:Pk X W (rV X) σ Q ι H (disp1 kes τ (.loc S.length) (S ++ [.dct []])):=pk
 refine pairs_read kes σ _ _ τ _ _ r2 (ρ.up E) ((Pk.next (R:=rP X) (pk.up E)).mono fun xs H2 ⟨ps,ι2,S2,e2,r3,q3,pk3⟩ => ?_)
 unfold dispO at pk3
 split at pk3
 ·rename_i l kvs el ek
  cases el
  split at pk3
  ·rename_i hb
   obtain ⟨h1,h2⟩:=hb
   unfold isD0 at h1
   split at h1
   ·rename_i eS
    obtain ⟨a,ea,hι⟩:=q2.up e2
    cases ea
    obtain ⟨vs,hv,rv⟩:=r3.obj _ p _ hι eS
    cases (show vs = [] from rv)
    obtain ⟨ws,rfl,w2⟩:=keysOf_rp ek q3.1 q3.2
    obtain ⟨E4,r4⟩:=r3.wdct hι (w2.merge (show RpF X.K ι2 H2 [] [] from rfl))
    exact ⟨hv,ws,rfl,by rw [← w2.length]; exact h2,pk3 _ _ _ E4 r4 ((q2.up e2).up E4)⟩
   ·cases h1
  ·exact pk3.elim
 ·exact pk3.elim
theorem rps_nil:PPs X pos [] [] (gP X W []):=pps_nil
theorem rps_cons {k v:Expr} {ks:List (Option Expr)} {vs:List Expr} {a b:EM PV} {kes:List (EM PV × EM PV)} (hk:RE X W k a) (hv:RE X W v b) (h:PPs X pos ks vs (gP X W kes)):PPs X pos (some k :: ks) (v :: vs) (gP X W ((a,b) :: kes)):=pps_cons hk.pe hv.pe h
end
section
variable {P:PV→Sto→Prop} {R:Str→PV→Sto→Prop} {τ : En} {S:Sto}
@[simp] theorem e_dispM (kes:List (EM PV × EM PV)) (τ : En) (S:Sto):dispM kes τ S = bnd (newDO S) (disp1 kes τ):=rfl
@[simp] theorem e_disp1 (kes:List (EM PV × EM PV)) (τ : En) (p:PV) (S:Sto):disp1 kes τ p S = bnd (pairsM kes τ S) (dispO p):=rfl
def pairs1 (b:EM PV) (r:List (EM PV × EM PV)) (τ : En) (x:PV) (S1:Sto):Out (List (PV × PV)):=bnd (b τ S1) fun y S2 => bnd (pairsM r τ S2) fun ps S3 => .ok ((x,y) :: ps) S3
def pairs2 (x:PV) (r:List (EM PV × EM PV)) (τ : En) (y:PV) (S2:Sto):Out (List (PV × PV)):=bnd (pairsM r τ S2) fun ps S3 => .ok ((x,y) :: ps) S3
def pairs3 (x y:PV) (ps:List (PV × PV)) (S3:Sto):Out (List (PV × PV)):=.ok ((x,y) :: ps) S3
@[simp] theorem e_pairs0 (τ : En) (S:Sto):pairsM [] τ S = .ok [] S:=rfl
@[simp] theorem e_pairsM (a b:EM PV) (r:List (EM PV × EM PV)) (τ : En) (S:Sto):pairsM ((a,b) :: r) τ S = bnd (a τ S) (pairs1 b r τ):=rfl
@[simp] theorem e_pairs1 (b:EM PV) (r:List (EM PV × EM PV)) (τ : En) (x:PV) (S1:Sto):pairs1 b r τ x S1 = bnd (b τ S1) (pairs2 x r τ):=rfl
@[simp] theorem e_pairs2 (x:PV) (r:List (EM PV × EM PV)) (τ : En) (y:PV) (S2:Sto):pairs2 x r τ y S2 = bnd (pairsM r τ S2) (pairs3 x y):=rfl
@[simp] theorem e_pairs3 (x y:PV) (ps:List (PV × PV)) (S3:Sto):pairs3 x y ps S3 = .ok ((x,y) :: ps) S3:=rfl
theorem newD_wp (h:∀ n S',S'[n]? = some (.dct [])→Keep [] S S'→S.length ≤ n→P (.loc n) S'):wp (newDO S) P R:=alloc_wp h
theorem disp_wp {l:Nat} {ps:List (PV × PV)} {kvs:List (Key × PV)} (h1:S[l]? = some (.dct [])) (h2:keysOf ps = some kvs) (h3:kvs.length ≤ 15) (h:P (.loc l) (S.set l (.dct (mergeP [] kvs)))):wp (dispO (.loc l) ps S) P R:=by
 simp only [dispO,h2,isD0,h1,h3,and_self,if_true,wp_ok]
 exact h
@[simp] theorem setdP_loc (l:Nat) (i v:PV):setdP (.loc l) i v S = match S[l]?,keyP i with | some (.dct kvs),some k => if kvs.length < 16777216 then some (S.set l (.dct (putP kvs k v))) else none | _,_ => none:=rfl
def setd1 (mo mi:EM PV) (τ : En) (v:PV) (S1:Sto):OS:=bndS (mo τ S1) τ fun o S2 => bndS (mi τ S2) τ fun i S3 => match setdP o i v S3 with | some S4 => .nx τ S4 | none => .bad
def setd2 (mi:EM PV) (τ : En) (v o:PV) (S2:Sto):OS:=bndS (mi τ S2) τ fun i S3 => match setdP o i v S3 with | some S4 => .nx τ S4 | none => .bad
def setd3 (τ : En) (v o i:PV) (S3:Sto):OS:=match setdP o i v S3 with | some S4 => .nx τ S4 | none => .bad
@[simp] theorem e_setdS (m mo mi:EM PV) (τ : En) (S:Sto):setdS m mo mi τ S = bndS (m τ S) τ (setd1 mo mi τ):=rfl
@[simp] theorem e_setd1 (mo mi:EM PV) (τ : En) (v:PV) (S1:Sto):setd1 mo mi τ v S1 = bndS (mo τ S1) τ (setd2 mi τ v):=rfl
@[simp] theorem e_setd2 (mi:EM PV) (τ : En) (v o:PV) (S1:Sto):setd2 mi τ v o S1 = bndS (mi τ S1) τ (setd3 τ v o):=rfl
@[simp] theorem e_setd3 (τ : En) (v o i:PV) (S1:Sto):setd3 τ v o i S1 = match setdP o i v S1 with | some S4 => .nx τ S4 | none => .bad:=rfl
theorem split_wp {a b:Str} {ys:List Str} (h1:(b.length == 0) = false) (h2:a.length + 2 ≤ 16777216) (h3:Txt.split a b = ys) (h:∀ n S',S'[n]? = some (.lst (ys.map PV.str))→Keep [] S S'→S.length ≤ n→P (.loc n) S'):wp (lift (splitP (.str a) [.str b] S)) P R:=by
 simp only [splitP,h1,h2,and_self,if_true,h3,lift_some,wp_ok]
 exact alloc_wp h
end
end PL
namespace PL
open PySem PySem.Spec PyProof.Rows L2
section
variable {X:Cx} {W:WX} {a e o f:Expr} {es:List Expr} {ma mo mf:EM PV} {mas mks:EM (List PV)} {pos:Pos} {kws:List Keyword}
theorem pe_callKw {CX:CXT} {x:Str} {p:Pos} {k:Nat} {f:Addr} {fd:FuncData} {ps ks:List Str} {sp:Sp} {E:L2.St→XK} {t:TA} {g:List Value→List Value→List Value} {gV:List V→List V→List V} (F:FnOk X.prog X.w X.K X.mg X.base CX k f fd ps sp) (hr:Room k X.A) (hg:Gl X x) (hm:X.mg x = some (.ref f)) (hk:PySem.W.keepIn X.K (.ref f) = true) (hb:KBinds X.K fd ps ks g gV) (hx:∀ σ,PassesAt CX X σ (E σ))
  (hkw:PK X kws t) (hall:(backToKw pos (keywordEach kws X.env)).all (·.1.isSome) = true:=by rfl) (hks:(backToKw pos (keywordEach kws X.env)).filterMap (·.1) = ks:=by rfl)
  (hdb:(x == ("__debug__" : Str)) = false:=by decide)
  (hpl:((backTo pos (starEach [] X.env)).any (·.1) || (backToKw pos (keywordEach kws X.env)).any (·.1.isNone)) = false:=by rfl) :
  PE X (.Call (.Name x p) [] kws pos) (fun σ H Q => t σ H fun zs H1 => sp (gV [] zs) H1 Q (E σ)):=by
 refine ⟨fun pins s σ H Q I h => ?_⟩
 refine wpAny_Call_Name_kw (ld_glob I hg hm ?_ hdb)
 refine PySem.W.callWith_KW0 (first:=[]) (h₀:=X.base) I.ok.mod.kin hk hall (thn (hkw.run pos pins s σ H _ I h) fun ws s2 ⟨zs,H2,I2,r,q2⟩ => ⟨I2.kIn,?_⟩) hpl
 rw [hks,List.append_nil]
 have r1:Vals ([]:List V) ([]:List Value):=.nil
 have r2:=hb.rel r1 r
 have hl:(g [] ws).length = ps.length:=by rw [← r2.length]; exact F.len _ _ _ _ q2
 refine wpAny_call (codeAny_mono (F.run X.A X.stack s2 H2 ⟨[],ks.zip ws⟩ (g [] ws) (gV [] zs) Q (E σ) hr I2.env0 (hb.to s2 [] ws I2.kIn hl) r2 q2) fun r s' hq => ?_)
 cases r with
 | error e => exact hx σ pins H2 s2 e s' I2 hq
 | ok fl =>
  cases fl with
  | ret u => exact I2.after hq
  | next => exact False.elim hq
  | brk => exact False.elim hq
  | cont => exact False.elim hq
def callKD (F:FM) (g:List PV→List PV) (ms:EM (List PV)):EM PV:=fun τ S => bnd (ms τ S) fun ps S1 => F (g ps) S1
theorem re_callKw {x:Str} {p:Pos} {n k:Nat} {F:FM} {f:Addr} {fd:FuncData} {ps ks:List Str} {g:List Value→List Value→List Value} {gV:List V→List V→List V} {gP:List PV→List PV} (G:FnOk X.prog X.w X.K X.mg X.base (L2.CX X.prog X.w) k f fd ps (spD X.prog X.w X.K X.mg n F)) (hr:Room k X.A) (hg:Gl X x) (hm:X.mg x = some (.ref f)) (hk:PySem.W.keepIn X.K (.ref f) = true) (hb:KBinds X.K fd ps ks g gV)
  (tk:Takes X W) (hgp:∀ ι H qs zs,qs.length = n→RpL X.K ι H qs zs→RpL X.K ι H (gP qs) (gV [] zs)∧(gP qs).length = n)
  (ha:RK X W kws mas) (hn:∀ τ S qs S',mas τ S = .ok qs S'→qs.length = n) (hall:(backToKw pos (keywordEach kws X.env)).all (·.1.isSome) = true:=by rfl) (hks:(backToKw pos (keywordEach kws X.env)).filterMap (·.1) = ks:=by rfl)
  (hdb:(x == ("__debug__" : Str)) = false:=by decide)
  (hpl:((backTo pos (starEach [] X.env)).any (·.1) || (backToKw pos (keywordEach kws X.env)).any (·.1.isNone)) = false:=by rfl) :
  RE X W (.Call (.Name x p) [] kws pos) (callKD F gP mas):=by
 refine ⟨pe_weak (pe_callKw (E:=WE W) G hr hg hm hk hb (fun σ => passAt tk σ) ha.pk hall hks hdb hpl) fun σ H Q ⟨ι,τ,S,r,ρ,pk⟩ => ⟨ι,τ,S,r,ρ,?_⟩⟩
 have hn':=hn τ S
 unfold callKD at pk
 cases hm':mas τ S with
 | bad => rw [hm'] at pk; exact pk.elim
 | er c p S' => rw [hm'] at pk; exact pk
 | ok qs S1 =>
  have hl:=hn' qs S1 hm'
  rw [hm'] at pk
  show ∀ ι' H' x,Ext ι H ι' H'→RSt X.prog X.w X.K X.mg ι' H' S1→RpL X.K ι' H' qs x→spD X.prog X.w X.K X.mg n F (gV [] x) H' Q (WE W σ)
  intro ι' H' zs e' r' q'
  obtain ⟨qv,ln⟩:=hgp ι' H' qs zs hl q'
  exact call_wish r' qv ln (Pk.up (o:=F (gP qs) S1) pk e')
end
section
variable {S:Sto}
end
end PL
namespace PL
open PySem PySem.Spec PyProof.Rows L2
def ckO (F:FM) (g:List PV→List PV):List PV→Sto→Out PV:=fun ps S => F (g ps) S
@[simp] theorem e_callKD (F:FM) (g:List PV→List PV) (ms:EM (List PV)) (τ : En) (S:Sto):callKD F g ms τ S = bnd (ms τ S) (ckO F g):=rfl
@[simp] theorem e_ckO (F:FM) (g:List PV→List PV) (ps:List PV) (S:Sto):ckO F g ps S = F (g ps) S:=rfl
end PL
namespace PL
open PySem PySem.Spec PyProof.Rows L2
section
variable {X:Cx} {W:WX} {e:Expr} {ma:EM PV} {pos:Pos}
end
end PL
namespace PL
open PySem PySem.Spec PyProof.Rows L2
section
variable {X:Cx} {W:WX} {e o i:Expr} {ma mo mi:EM PV} {pos:Pos}
end
section
variable {S:Sto} {τ : En}
end
end PL
namespace PL
open PySem PySem.Spec PyProof.Rows L2
section
variable {X:Cx} {W:WX} {D:Addr} {e o tg iter:Expr} {pos:Pos}
def stepD (tt:EM Bool) (ke el:EM PV):List (Key × PV)→En→Sto→Out (List (Key × PV)):=fun acc τ S => bnd (noEr (tt τ S)) fun k S1 =>
 if k = true then bnd (noEr (ke τ S1)) fun kp S2 => bnd (noEr (el τ S2)) fun y S3 => (match keyP kp with | some kk => if acc.length < 16777216 then .ok (putP acc kk y) S3 else .bad | none => .bad) else .ok acc S1
open Classical in
noncomputable def accD (t:Wk) (g:GM) (step:List (Key × PV)→En→Sto→Out (List (Key × PV))):List (Key × PV)→List PV→En→Sto→Out (List (Key × PV))
 | acc,[] => fun _ S => if t.ok S then .ok acc S else .bad
 | acc,p :: r => fun τ S => if t.ok S then (match g p τ with | some τ1 => bnd (step acc τ1 S) fun acc' S1 => accD t g step acc' r τ S1 | none => .bad) else .bad
def newDc (o:Out (List (Key × PV))):Out PV:=bnd o fun acc S => .ok (.loc S.length) (S ++ [.dct acc])
noncomputable def dcM (m:EM Wk) (g:GM) (tt:EM Bool) (ke el:EM PV) (vs:List Nat):EM PV:=fun τ S => bnd (m τ S) fun t S1 => newDc (accD t g (stepD tt ke el) [] t.items (wipeE τ vs) S1)
structure Dd (K:PySem.W.Frag) (ι : List Addr) (H:Hp) (D:Addr) (acc:List (Key × PV)):Prop where
 nin:D ∉ ι
 obj:∃ vs,H D = some (.dK vs)∧RpF K ι H acc vs
theorem Dd.up {ι ι':List Addr} {H H':Hp} {D:Addr} {acc:List (Key × PV)} (d:Dd X.K ι H D acc) (e:Ext ι H ι' H'):Dd X.K ι' H' D acc:=by
 obtain ⟨vs,h1,h2⟩:=d.obj
 refine ⟨fun hm => ?_,vs,e.fr D _ h1 d.nin,h2.up e⟩
 rcases e.new D hm with q | q
 ·exact d.nin q
 ·rw [h1] at q; cases q
theorem extW_updD {D:Addr} {ι : List Addr} {H:Hp} {vs ws:List (Key × V)} (h:H D = some (.dK vs)):ExtW ι H ι (upd H D (.dK ws)) :=
 ⟨fun _ _ h => h,fun a xs e => by rw [upd_ne (fun z => by subst z; rw [h] at e; cases e)]; exact e,fun a o u e => by rw [upd_ne (fun z => by subst z; rw [h] at e; cases e)]; exact e⟩
theorem Dd.write {ι1 ι : List Addr} {H1 H:Hp} {S:Sto} {D:Addr} {vs ws:List (Key × V)} {acc:List (Key × PV)} (hD:H1 D = none) (e:Ext ι1 H1 ι H) (r:RSt X.prog X.w X.K X.mg ι H S) (nin:D ∉ ι) (h:H D = some (.dK vs)) (h2:RpF X.K ι H acc ws) :
  Ext ι1 H1 ι (upd H D (.dK ws))∧RSt X.prog X.w X.K X.mg ι (upd H D (.dK ws)) S∧Dd X.K ι (upd H D (.dK ws)) D acc∧ExtW ι H ι (upd H D (.dK ws)):=by
 have eb:ExtW ι H ι (upd H D (.dK ws)):=extW_updD h
 refine ⟨⟨e.pre,fun a o q n => ?_,e.new,fun a xs q => ?_,fun a o u q => ?_⟩,⟨r.len,r.nd,fun l a o e1 e2 => ?_⟩,⟨nin,ws,upd_same,RpF.upW eb h2⟩,eb⟩
 ·rw [upd_ne (ne_of_none q hD)]; exact e.fr a o q n
 ·rw [upd_ne (ne_of_none q hD)]; exact e.tups a xs q
 ·rw [upd_ne (ne_of_none q hD)]; exact e.frzs a o u q
 ·have hne:a ≠ D:=fun z => nin (z ▸ List.mem_of_getElem? e1)
  have ho:=r.obj l a o e1 e2
  have k:upd H D (.dK ws) a = H a:=upd_ne hne
  cases o with
  | lst xs => obtain ⟨vs,q,r⟩:=ho; exact ⟨vs,k.trans q,RpL.upW eb _ _ r⟩
  | dct xs => obtain ⟨vs,q,r⟩:=ho; exact ⟨vs,k.trans q,RpF.upW eb r⟩
  | ins C fs => obtain ⟨Ca,dx,ws,m,q,r⟩:=ho; exact ⟨Ca,dx,ws,m,k.trans q,RpF.upW eb r⟩
  | dtp xs => obtain ⟨vs,q,z,r⟩:=ho; exact ⟨vs,k.trans q,fun x hx => (z x hx).upW eb,RpF.upW eb r⟩
  | tab nm q => exact ⟨TabZ.to ho.1 k eb.frzs,ho.2⟩
  | exc C p => obtain ⟨oe,Ca,dd,x,q,m,c1,c2,c3,nd,hd,r⟩:=ho; exact ⟨oe,Ca,dd,x,k.trans q,m,c1,c2,c3,nd,(upd_ne fun z => by rw [z,h] at hd; cases hd).trans hd,Rp.upW eb _ _ r⟩
  | ndt xs => obtain ⟨vs,q,z,r⟩:=ho; exact ⟨vs,k.trans q,fun x hx => ⟨(z x hx).1,(z x hx).2.mono eb.frzs⟩,RpF.upW eb r⟩
theorem Dd.adopt {ι1 ι : List Addr} {H1 H:Hp} {S:Sto} {D:Addr} {acc:List (Key × PV)} (hD:H1 D = none) (e:Ext ι1 H1 ι H) (r:RSt X.prog X.w X.K X.mg ι H S) (d:Dd X.K ι H D acc) :
  Ext ι1 H1 (ι ++ [D]) H∧RSt X.prog X.w X.K X.mg (ι ++ [D]) H (S ++ [.dct acc])∧Rp X.K (ι ++ [D]) H (.loc S.length) (.ref D):=by
 have pre:∀ (l:Nat) (a:Addr),ι[l]? = some a→(ι ++ [D])[l]? = some a:=fun l a h => by
  rw [List.getElem?_append_left (List.getElem?_eq_some_iff.mp h).1]; exact h
 have eb:ExtW ι H (ι ++ [D]) H:=⟨pre,fun _ _ h => h,fun _ _ _ h => h⟩
 obtain ⟨vs,h1,h2⟩:=d.obj
 refine ⟨⟨fun l a h => pre l a (e.pre l a h),e.fr,fun a m => ?_,e.tups,e.frzs⟩,⟨by simp [r.len],List.nodup_append.mpr ⟨r.nd,by simp,fun x hx y hy => by simp at hy; subst hy; exact fun z => d.nin (z ▸ hx)⟩,fun l' a' o' e1 e2 => ?_⟩,D,rfl,by rw [← r.len]; simp⟩
 ·rcases List.mem_append.mp m with q | q
  ·exact e.new a q
  ·have:a = D:=by simpa using q
   subst this; exact .inr hD
 ·by_cases hl:l' < ι.length
  ·rw [List.getElem?_append_left hl] at e1
   rw [List.getElem?_append_left (by rw [← r.len]; exact hl)] at e2
   have ho:=r.obj l' a' o' e1 e2
   cases o' with
   | lst xs => obtain ⟨vs,q,r⟩:=ho; exact ⟨vs,q,RpL.upW eb _ _ r⟩
   | dct xs => obtain ⟨vs,q,r⟩:=ho; exact ⟨vs,q,RpF.upW eb r⟩
   | ins C fs => obtain ⟨Ca,dx,ws,m,q,r⟩:=ho; exact ⟨Ca,dx,ws,m,q,RpF.upW eb r⟩
   | dtp xs => obtain ⟨vs,q,z,r⟩:=ho; exact ⟨vs,q,fun x hx => (z x hx).upW eb,RpF.upW eb r⟩
   | tab nm q => exact ⟨TabZ.to ho.1 rfl eb.frzs,ho.2⟩
   | exc C p => obtain ⟨oe,Ca,dd,x,q,m,c1,c2,c3,nd,hd,r⟩:=ho; exact ⟨oe,Ca,dd,x,q,m,c1,c2,c3,(fun z => (List.mem_append.mp z).elim nd fun z => by (have z:dd = D:=by simpa using z); rw [z,h1] at hd; cases hd),hd,Rp.upW eb _ _ r⟩
   | ndt xs => obtain ⟨vs,q,z,r⟩:=ho; exact ⟨vs,q,fun x hx => ⟨(z x hx).1,(z x hx).2.mono eb.frzs⟩,RpF.upW eb r⟩
  ·rw [List.getElem?_append_right (by omega)] at e1
   rw [List.getElem?_append_right (by rw [← r.len]; omega)] at e2
   have h0:l' - ι.length = 0:=by
    have:=(List.getElem?_eq_some_iff.mp e1).1
    simp at this; omega
   have h0':l' - S.length = 0:=by rw [← r.len]; exact h0
   rw [h0] at e1; rw [h0'] at e2
   simp at e1 e2
   subst e1; subst e2
   exact ⟨vs,h1,RpF.upW eb h2⟩
theorem dc_read {m:EM Wk} {g:GM} {sl:List Nat} {tt:EM Bool} {ke el:EM PV} {vs:List Nat} (hsl:∀ i ∈ sl,i ∈ vs) (σ : L2.St) (H:Hp) (Q:VK) (h:gE X W (rV X) (dcM m g tt ke el vs) σ H Q) :
  tDc (gE X W (ItOk X) m) (gG X g sl) (gE X W0 rB tt) (gE X W0 (rV X) ke) (gE X W0 (rV X) el) vs σ H Q:=by
 obtain ⟨ι,τ,S,r,ρ,pk⟩:=h
 refine ⟨ι,τ,S,r,ρ,pk.next.mono ?_⟩
 rintro J H1 ⟨t,ι1,S1,e1,r1,q1,pk1⟩
 intro D hD
 have ρ1:=(ρ.up e1).wipe vs
 obtain ⟨E0,r0⟩:=r1.tup (ho:=.dK []) hD
 have nD:D ∉ ι1:=fun hm => by
  obtain ⟨l0,o0,_,_,h3⟩:=r1.mem hm
  exact h3.mut.2.1 hD
 refine ⟨fun i n H => ∃ ι S acc,Ext ι1 H1 ι H∧RSt X.prog X.w X.K X.mg ι H S∧REn X.K ι H (wipeE τ vs) (wipe σ vs)∧Dd X.K ι H D acc∧n = t.items.length - i∧i ≤ t.items.length ∧
   Pk X W (rV X) σ Q ι1 H1 (newDc (accD t g (stepD tt ke el) acc (t.items.drop i) (wipeE τ vs) S)),
  ⟨t.items.length,ι1,S1,[],E0,r0,ρ1.up E0,⟨nD,[],upd_same,rfl⟩,by simp,Nat.zero_le _,by rw [List.drop_zero]; exact pk1⟩,?_⟩
 rintro i n H2 ⟨ι2,S2,acc,e2,r2,ρ2,d2,hn,hle,pk2⟩
 by_cases hlt:i < t.items.length
 ·obtain ⟨p,hp⟩:=get_len hlt
  rw [drop_of_get hp] at pk2
  unfold accD at pk2
  split at pk2
  ·rename_i ok
   obtain ⟨go,step⟩:=(q1 i ι2 H2 S2 e2.w r2 ok).1 hlt
   cases hgp:g p (wipeE τ vs) with
   | none => rw [hgp] at pk2; exact pk2.elim
   | some τ3 =>
    rw [hgp] at pk2
    refine .inr ⟨go,fun H' => ∃ ι S acc,Ext ι1 H1 ι H'∧RSt X.prog X.w X.K X.mg ι H' S∧REn X.K ι H' (wipeE τ vs) (wipe σ vs)∧Dd X.K ι H' D acc∧Pk X W (rV X) σ Q ι1 H1 (newDc (accD t g (stepD tt ke el) acc (t.items.drop (i + 1)) (wipeE τ vs) S)),
     fun H' ⟨ι',S',acc',e',r',ρ',d',pk'⟩ => ⟨n - 1,by omega,ι',S',acc',e',r',ρ',d',by omega,by omega,pk'⟩,fun x H3 hy => ?_⟩
    obtain ⟨p',hp',E3,r3,rv3⟩:=step x H3 hy
    rw [hp] at hp'; cases hp'
    refine ⟨ι2,wipeE τ vs,S2,p,τ3,r3,ρ2.up E3,rv3,hgp,fun σ3 ρ3 c3 => ⟨c3 vs hsl |>.trans (by rw [wipe_wipe]),ι2,τ3,S2,r3,ρ3,?_⟩⟩
    cases ht:tt τ3 S2 with
    | bad => simp only [stepD,ht,noEr_bad,bnd_bad,newDc] at pk2; exact pk2.elim
    | er c p S' => simp only [stepD,ht,noEr_er,bnd_bad,newDc] at pk2; exact pk2.elim
    | ok k S4 =>
     show ∀ ι' H' x,Ext ι2 H3 ι' H'→RSt X.prog X.w X.K X.mg ι' H' S4→k = x→_
     rintro ι4 H4 k' E4 r4 rfl
     simp only [stepD,ht,noEr_ok,bnd_ok] at pk2
     cases k with
     | false =>
      rw [if_neg Bool.false_ne_true] at pk2 ⊢
      exact ⟨ι4,S4,acc,(e2.trans E3).trans E4,r4,(ρ2.up E3).up E4,(d2.up E3).up E4,pk2⟩
     | true =>
      rw [if_pos rfl] at pk2 ⊢
      refine ⟨ι4,τ3,S4,r4,ρ3.up E4,?_⟩
      cases hke:ke τ3 S4 with
      | bad => simp only [hke,noEr_bad,bnd_bad,newDc] at pk2; exact pk2.elim
      | er c p S' => simp only [hke,noEr_er,bnd_bad,newDc] at pk2; exact pk2.elim
      | ok kp S5 =>
       show ∀ ι' H' x,Ext ι4 H4 ι' H'→RSt X.prog X.w X.K X.mg ι' H' S5→Rp X.K ι' H' kp x→_
       intro ι5 H5 kv E5 r5 q5
       simp only [hke,noEr_ok,bnd_ok] at pk2
       refine ⟨ι5,τ3,S5,r5,(ρ3.up E4).up E5,?_⟩
       cases hel:el τ3 S5 with
       | bad => simp only [hel,noEr_bad,bnd_bad,newDc] at pk2; exact pk2.elim
       | er c p S' => simp only [hel,noEr_er,bnd_bad,newDc] at pk2; exact pk2.elim
       | ok y S6 =>
        show ∀ ι' H' x,Ext ι5 H5 ι' H'→RSt X.prog X.w X.K X.mg ι' H' S6→Rp X.K ι' H' y x→_
        intro ι6 H6 yv E6 r6 q6
        simp only [hel,noEr_ok,bnd_ok] at pk2
        cases hkk:keyP kp with
        | none => simp only [hkk,bnd_bad,newDc] at pk2; exact pk2.elim
        | some kk =>
         simp only [hkk] at pk2
         split at pk2
         ·rename_i hacc
          have d6:=(((d2.up E3).up E4).up E5).up E6
          obtain ⟨ws,h1,h2⟩:=d6.obj
          obtain ⟨E7,r7,d7,b7⟩:=Dd.write (acc:=putP acc kk y) (ws:=putK ws kk yv) hD ((((e2.trans E3).trans E4).trans E5).trans E6) r6 d6.nin h1 (h2.put q6)
          refine ⟨ws,kk,keyP_rp hkk q5,h1,by rw [← h2.length,sizeLine_eq]; exact hacc,ι6,S6,putP acc kk y,E7,r7,REn.upW b7 ((((ρ2.up E3).up E4).up E5).up E6),d7,pk2⟩
         ·exact pk2.elim
  ·exact pk2.elim
 ·have hi':i = t.items.length:=by omega
  rw [hi',List.drop_length] at pk2
  unfold accD at pk2
  split at pk2
  ·rename_i ok
   obtain ⟨E,r',q'⟩:=Dd.adopt hD e2 r2 d2
   exact .inl ⟨(q1 i ι2 H2 S2 e2.w r2 ok).2 (by omega),pk2 _ _ _ E r' q'⟩
  ·exact pk2.elim
theorem re_dc {kx vx:Expr} {ifs:List Expr} {scope:Scope} {own:List (Str × Nat)} {m:EM Wk} {g:GM} {sl:List Nat} {tt:EM Bool} {ke el:EM PV} (hc:X.calm = true) (hN:X.N.Nodup) (hi:RI X W tg iter m) (ok:BlkOk X.N X.env.scope scope own)
  (hg:∀ (s:Shared) (H:Hp) (C:Addr) (cl:List (Str × Addr)) (fp:List Addr),RG (X.blk s H scope (compEnvC scope cl C X.env) fp) tg g sl) (ht:∀ (s:Shared) (H:Hp) (C:Addr) (cl:List (Str × Addr)) (fp:List Addr),RTs (X.blk s H scope (compEnvC scope cl C X.env) fp) W0 ifs tt)
  (hk:∀ (s:Shared) (H:Hp) (C:Addr) (cl:List (Str × Addr)) (fp:List Addr),RE (X.blk s H scope (compEnvC scope cl C X.env) fp) W0 kx ke)
  (he:∀ (s:Shared) (H:Hp) (C:Addr) (cl:List (Str × Addr)) (fp:List Addr),RE (X.blk s H scope (compEnvC scope cl C X.env) fp) W0 vx el) (hsl:∀ i ∈ sl,i ∈ own.map (·.2)) (hs:∀ x,foldedSetIterable iter X.env x = pure x:=by intro _; rfl) :
  RE X W (.DictComp kx vx [⟨tg,iter,ifs,0⟩] scope pos) (dcM m g tt ke el (own.map (·.2))) :=
 ⟨pe_weak (pe_dc hc hN hi.pi ok (fun s H C cl fp => (hg s H C cl fp).pg) (fun s H C cl fp => (ht s H C cl fp).pts) (fun s H C cl fp => (hk s H C cl fp).pe) (fun s H C cl fp => (he s H C cl fp).pe) hs) fun σ H Q h => dc_read hsl σ H Q h⟩
end
section
variable {τ : En} {S:Sto}
noncomputable def dc1 (g:GM) (tt:EM Bool) (ke el:EM PV) (vs:List Nat) (τ : En) (t:Wk) (S1:Sto):Out PV:=newDc (accD t g (stepD tt ke el) [] t.items (wipeE τ vs) S1)
@[simp] theorem e_dcM (m:EM Wk) (g:GM) (tt:EM Bool) (ke el:EM PV) (vs:List Nat) (τ : En) (S:Sto):dcM m g tt ke el vs τ S = bnd (m τ S) (dc1 g tt ke el vs τ):=rfl
@[simp] theorem e_dc1 (g:GM) (tt:EM Bool) (ke el:EM PV) (vs:List Nat) (τ : En) (t:Wk) (S1:Sto):dc1 g tt ke el vs τ t S1 = newDc (accD t g (stepD tt ke el) [] t.items (wipeE τ vs) S1):=rfl
def newDK (P:PV→Sto→Prop):List (Key × PV)→Sto→Prop:=fun acc S => P (.loc S.length) (S ++ [.dct acc])
@[simp] theorem e_newDc (o:Out (List (Key × PV))) (P:PV→Sto→Prop) (R:Str→PV→Sto→Prop):wp (newDc o) P R = wp o (newDK P) R:=by cases o <;> rfl
theorem newDK_wp {P:PV→Sto→Prop} {kvs:List (Key × PV)} (h:∀ n S',S'[n]? = some (.dct kvs)→Keep [] S S'→S.length ≤ n→P (.loc n) S'):newDK P kvs S:=alloc_wp h
def sD1 (ke el:EM PV) (acc:List (Key × PV)) (τ : En) (k:Bool) (S1:Sto):Out (List (Key × PV)) :=
 if k = true then bnd (noEr (ke τ S1)) fun kp S2 => bnd (noEr (el τ S2)) fun y S3 => (match keyP kp with | some kk => if acc.length < 16777216 then .ok (putP acc kk y) S3 else .bad | none => .bad) else .ok acc S1
def sD3 (acc:List (Key × PV)) (kp y:PV) (S3:Sto):Out (List (Key × PV)):=match keyP kp with | some kk => if acc.length < 16777216 then .ok (putP acc kk y) S3 else .bad | none => .bad
def sD2 (el:EM PV) (acc:List (Key × PV)) (τ : En) (kp:PV) (S2:Sto):Out (List (Key × PV)):=bnd (noEr (el τ S2)) (sD3 acc kp)
@[simp] theorem e_sD1 (ke el:EM PV) (acc:List (Key × PV)) (τ : En) (k:Bool) (S1:Sto):sD1 ke el acc τ k S1 = if k = true then bnd (noEr (ke τ S1)) (sD2 el acc τ) else .ok acc S1:=rfl
@[simp] theorem e_sD2 (el:EM PV) (acc:List (Key × PV)) (τ : En) (kp:PV) (S2:Sto):sD2 el acc τ kp S2 = bnd (noEr (el τ S2)) (sD3 acc kp):=rfl
@[simp] theorem e_sD3 (acc:List (Key × PV)) (kp y:PV) (S3:Sto):sD3 acc kp y S3 = match keyP kp with | some kk => if acc.length < 16777216 then .ok (putP acc kk y) S3 else .bad | none => .bad:=rfl
theorem stepD_wp {tt:EM Bool} {ke el:EM PV} {acc:List (Key × PV)} {τ : En} {S:Sto} {P:List (Key × PV)→Sto→Prop} {R:Str→PV→Sto→Prop} :
  wp (stepD tt ke el acc τ S) P R = wp (tt τ S) (wK (sD1 ke el acc τ) P R) noK:=by
 show wp (bnd (noEr (tt τ S)) (sD1 ke el acc τ)) P R = _
 rw [wp_bnd,e_noEr]
 rfl
end
end PL
namespace PL
open PySem PySem.Spec PyProof.Rows L2
section
variable {K:PySem.W.Frag} {mg:Str→Option Value} {ι : List Addr} {H:Hp} {X:Cx}
end
section
variable {X:Cx}
def eqNilP:Op2:=fun p q S => match p,q with
 | .loc l,.loc k => (match S[l]?,S[k]? with | some (.lst xs),some (.lst []) => some (.bl xs.isEmpty,S) | _,_ => none)
 | _,_ => none
theorem og_eqNil (hu:X.A.units + 64 < cLine):OpR X (compareOp .Eq) (gOp X eqNilP):=by
 intro pins s σ H x y v u Q I rx ry ⟨ι,S,p,q,z,S',rs,rp,rq,hf,k⟩
 unfold eqNilP at hf
 split at hf
 ·rename_i l m
  split at hf
  ·rename_i xs e1 e2
   cases hf
   obtain ⟨a,rfl,h1⟩:=rp
   obtain ⟨b,rfl,h2⟩:=rq
   obtain ⟨vs,h3,h4⟩:=rs.obj l a _ h1 e1
   obtain ⟨ws,h5,h6⟩:=rs.obj m b _ h2 e2
   cases (show ws = [] from h6)
   cases rx
   cases ry
   obtain ⟨its,r1,t1,_⟩:=I.list (.of h3)
   obtain ⟨jts,r2,t2,_⟩:=I.list (.of h5)
   cases r2
   have fin:=k ι H (.bl xs.isEmpty) .refl rs rfl
   have hlen:=h4.length
   have hl2:=r1.length
   cases xs with
   | nil =>
    have:its = []:=List.length_eq_zero_iff.mp (by simp at hlen; omega)
    subst this
    exact SeqAt.eq_listAt (e:=fun _ => true) t1.isList t2.isList rfl (by omega) (fun j h => absurd h (by simp)) ⟨.bl true,H,I,rfl,fin⟩
   | cons x xs =>
    have:its.length ≠ 0:=by simp at hlen; omega
    exact SeqAt.eq_list_lengthsAt t1.isList t2.isList (by simpa using this) (by omega) ⟨.bl false,H,I,rfl,fin⟩
  ·cases hf
 ·cases hf
end
@[simp] theorem eqNilP_ap (l k:Nat) (S:Sto):eqNilP (.loc l) (.loc k) S = match S[l]?,S[k]? with | some (.lst xs),some (.lst []) => some (.bl xs.isEmpty,S) | _,_ => none:=rfl
end PL
namespace PLz
open PySem PySem.Spec PyProof.Rows L2
section
variable {prog:Program} {w:World} {A:Around} {E:Value→Shared→Prop} {s:Shared}
end
end PLz
set_option maxHeartbeats 4000000
namespace PLs
open PySem PySem.Spec PyProof.Rows L2
def clauseTurn (c:Code) (tg:Expr) (env:Env) (p:Pos) (it:Value) (body:Sem Unit):Sem Fin :=
 standAt p >>= fun _ => pyNext it >>= fun r => match r with
  | none => pure (.done .next)
  | some v => letOwnedTupleGo tg it v >>= fun _ => assign tg env v >>= fun _ => body >>= fun _ => again c
def Rounds (J:It) (W:Nat→Nat→Hp→Prop) (over:Hp→Prop) (each:V→Hp→(Hp→Prop)→Prop):Prop:=∀ i m H,W i m H →
 (J.stop i H∧over H) ∨ (J.go i H∧∃ Nx:Hp→Prop,(∀ H',Nx H'→∃ k,k < m∧W (i + 1) k H')∧∀ x H',J.yld i H x H'→each x H' Nx)
section
variable {B:Cx} {elt:Expr} {gens:List Comprehension} {bsc:Scope} {epos:Pos} {d:Nat} {it:Addr} {acc:Value} {tg:Expr} {body:Sem Unit} {p:Pos} {R:Result→Shared→Prop}
theorem clause_run {J:It} {fp:List Addr} {tn:Nat→Heap→Prop} {g:TG} {σ0:L2.St} {pn:List (Addr × Obj)} {Qe:Hp→Prop} {Bp:L2.St→Hp→(Hp→Prop)→Prop} {W:Nat→Nat→Hp→Prop}
  (hc:B.calm = true) (eq:compTurn (.SetComp elt gens bsc epos) d (.ref it) acc B.env = clauseTurn (.compLoop (.SetComp elt gens bsc epos) d (.ref it) acc B.env) tg B.env p (.ref it) body)
  (T:Turn B.prog B.w B.K tg J fp it tn) (pg:PG B tg g)
  (hf:∀ H',(∀ b ∈ fp,H' b = none)→∀ s,Inv B pn σ0 H' s→∀ b ∈ fp,FpOk B pn H' b)
  (turn:Rounds J W Qe fun x H' Nx => g x σ0 H' fun σ2 H2 => Bp σ2 H2 Nx)
  (hb:∀ (pl:List (Addr × Obj)) (u:Shared) σ2 H2 Nx,Inv B (pn ++ pl) σ2 H2 u→Bp σ2 H2 Nx →
   wpAny (model B.prog B.w) B.A body (fun _ u' => ∃ H',Inv B (pn ++ pl) σ0 H' u'∧Nx H') (fun _ _ => False) u)
  (fin:∀ u H,Inv B pn σ0 H u→Qe H→R (.ok .next) u) (hx:B.xe = fun _ _ => False) :
  ∀ (n i:Nat) (u:Shared) (H:Hp),Inv B pn σ0 H u→tn i u.heap→(∀ b ∈ fp,H b = none)→W i n H→codeAny (model B.prog B.w) B.A (.compLoop (.SetComp elt gens bsc epos) d (.ref it) acc B.env) R u:=by
 intro n i u H I0 t0 n0 w0
 refine codeAny_loop rfl (fun m v => ∃ j G,Inv B pn σ0 G v∧tn j v.heap∧(∀ b ∈ fp,G b = none)∧W j m G) (fun m v hv => ?_) n ⟨i,H,I0,t0,n0,w0⟩
 obtain ⟨j,G,I1,t1,n1,w1⟩:=hv
 show wpAny _ B.A ((compTurn (.SetComp elt gens bsc epos) d (.ref it) acc B.env).onRaise fun x => do noteFrame x B.env; theTreesLotGoes x) _ _ v
 refine wpAny_noted ?_
 rw [eq]
 unfold clauseTurn
 refine wpAny_bind (wpAny_standAt (wpAny_bind ?_))
 rcases turn j m G w1 with ⟨hs,hq⟩ | ⟨hgo,Nx,more,go⟩
 ·refine thnF (T.done B rfl rfl rfl hc j pn v σ0 G (fun _ _ => False) I1 (hf G n1 v I1) t1 hs) fun r v2 hr => ?_
  obtain ⟨rfl,I2⟩:=hr
  exact wpAny_pure (fin v2 G I2 hq)
 ·refine thnF (T.item B rfl rfl rfl hc j pn v σ0 G (fun _ _ => False) I1 (hf G n1 v I1) t1 hgo) fun r v2 hr => ?_
  obtain ⟨x,rfl,h2⟩:=hr
  refine wpAny_bind (thnF h2 fun _ v3 h3 => ?_)
  obtain ⟨y,G3,I3,ry,hy,t3,n3⟩:=h3
  have P3:=I3.pinned (hf G3 n3 v3 I3) (T.obj _ _ t3)
  have as1:=pg.run (pn ++ pinsAt fp v3.heap) v3 σ0 G3 y x (fun σ2 H2 => Bp σ2 H2 Nx) P3 ry (go y G3 hy)
  rw [hx] at as1
  refine wpAny_bind (thnF as1 fun _ v4 h4 => ?_)
  obtain ⟨σ4,G4,I4,b4⟩:=h4
  refine wpAny_bind (thnF (hb _ v4 σ4 G4 Nx I4 b4) fun _ v5 h5 => ?_)
  obtain ⟨G5,I5,nx⟩:=h5
  obtain ⟨m',lt,w'⟩:=more G5 nx
  have at5:∀ b ∈ fp,∀ o,v3.heap.get? b = some o→v5.heap.get? b = some o∧G5 b = none:=fun b hb o q =>
   have z:=I5.pin (b,o) (List.mem_append_right _ (List.mem_append_right _ (mem_pinsAt hb q)))
   ⟨z.1,z.2.1⟩
  refine wpAny_pure ⟨rfl,m',lt,j + 1,G5,I5.unpinned,T.keep _ _ _ t3 (fun b hb o q => (at5 b hb o q).1),fun b hb => ?_,w'⟩
  obtain ⟨o,q,_⟩:=T.obj _ _ t3 b hb
  exact (at5 b hb o q).2
end
abbrev SC (el t0 i0 t1 i1:Expr) (b:Scope) (p:Pos):Expr:=.SetComp el [⟨t0,i0,[],0⟩,⟨t1,i1,[],0⟩] b p
def innerBody (el t0 i0 t1 i1:Expr) (b:Scope) (p:Pos) (acc:Value) (env:Env):Sem Unit :=
 eval i1 env >>= fun x => standAt i1.pos >>= fun _ => foldedSetIterable i1 env x >>= fun y => holding [y] (pyIter y) >>= fun z => runOwn (.compStart (SC el t0 i0 t1 i1 b p) 1 z acc env) env >>= fun _ => pure ()
def addBody (el:Expr) (acc:Value) (env:Env):Sem Unit :=
 eval el env >>= fun v => standAt el.pos >>= fun _ => call (.builtin "set.add") [acc,v] >>= fun _ => pure ()
theorem turn_out (el t0 i0 t1 i1:Expr) (b:Scope) (p:Pos) (it acc:Value) (env:Env) :
  compTurn (SC el t0 i0 t1 i1 b p) 0 it acc env = clauseTurn (.compLoop (SC el t0 i0 t1 i1 b p) 0 it acc env) t0 env i0.pos it (innerBody el t0 i0 t1 i1 b p acc env):=by
 unfold compTurn clauseTurn innerBody
 simp only [List.getElem?_cons_zero,List.getElem?_cons_succ,Nat.zero_add,List.forIn_nil,pure_bind,bind_assoc,if_true]
 rfl
theorem turn_in (el t0 i0 t1 i1:Expr) (b:Scope) (p:Pos) (it acc:Value) (env:Env) :
  compTurn (SC el t0 i0 t1 i1 b p) 1 it acc env = clauseTurn (.compLoop (SC el t0 i0 t1 i1 b p) 1 it acc env) t1 env i1.pos it (addBody el acc env):=by
 unfold compTurn clauseTurn addBody
 simp only [List.getElem?_cons_zero,List.getElem?_cons_succ,Nat.zero_add,List.forIn_nil,pure_bind,bind_assoc,if_true]
 rfl
theorem addK_ok {X:Cx} {pins:List (Addr × Obj)} {σ : L2.St} {H:Hp} {u:Shared} {E:Value→Shared→Prop} {D b:Addr} {L:List (Addr × List Key)} {k:List Key} {Q:Value→Shared→Prop}
  (I:Inv X pins σ H u) (hD:H D = some (SetO X.prog X.w D L)) (its:∀ q ∈ L,SqT X.K H q.1 (q.2.map kV)) (hb:SqT X.K H b (k.map kV)) (few:L.length + 1 ≤ 4000) (hu:X.A.units + 64 < cLine)
  (fin:∀ u' L',Inv X pins σ (upd H D (SetO X.prog X.w D L')) u'→(k ∈ L.map (·.2)→L' = L)→(k ∉ L.map (·.2)→L'.Perm ((b,k) :: L))→Q .none u') :
  wpAny (model X.prog X.w) X.A (call (.builtin "set.add") [.ref D,.ref b]) Q E u:=by
 obtain ⟨es,ep,t,Bs⟩:∃ es ep t,SetB (flatK X.prog X.w) u.heap D L es ep t:=(I.hok D _ hD).1
 obtain ⟨o,ho,hex,hd⟩:=Bs.ob
 have ty:u.TypeIs (.ref D) "set" := ⟨o,ho,hex.1⟩
 refine wpAny_call_entry F.slot_set_add ty F.entry_set_add ?_ (F.args_set_add_2 _ _)
 unfold Builtin.«set.add» Builtin.Frozenset.oneOther
 simp only [List.isEmpty_nil,bind_assoc]
 unfold Builtin.Frozenset.addrOf setAdd
 repeat (first | refine wpAny_bind (wpAny_pure ?_) | dsimp only)
 refine wpAny_bind (wpAny_holding ?_)
 have hk:=inv_tup I hb
 refine wpAny_bind (hash_ok (S:=flatK X.prog X.w) (by first | exact (by omega:X.A.units < cLine) | (simp; omega)) hk fun tk htk => ?_)
 refine add_one (S:=flatK X.prog X.w) (s:={ u with toks:=tk }) Bs (fun q hq => by have z:=inv_tup I (its q hq); exact z) hk (by first | exact (by omega:X.A.units < cLine) | (simp; omega)) few fun _ h' L' es' ep' t' sb Bn c1 c2 => ?_
 refine wpAny_pure ⟨_,rfl,fin _ L' ?_ c1 c2⟩
 have he:∃ v,h'.get? D = some v:=by obtain ⟨o',q,_⟩:=Bn.ob; exact ⟨o',q⟩
 exact I.write (e:=D) (t':=tk) (by rw [hD]; trivial) (.inl rfl) (fun c v hc hv => (sb.2 c hc).trans hv) he (setO_new Bn)
end PLs
namespace PLs
open PySem PySem.Spec PyProof.Rows L2
theorem start_any {prog:Program} {w:World} {A:Around} {R:Result→Shared→Prop} {u:Shared} {elt:Expr} {gens:List Comprehension} {bsc:Scope} {epos:Pos} {d:Nat} {it acc:Value} {env:Env} {g:Comprehension} (hg:gens[d]? = some g) (ha:(g.is_async != 0) = false)
  (h0:codeAny (model prog w) A (.compLoop (.SetComp elt gens bsc epos) d it acc env) R u)
  (h1:wpAny (model prog w) A (pyIter it) (fun z v => codeAny (model prog w) A (.compLoop (.SetComp elt gens bsc epos) d z acc env) R v) (fun _ _ => False) u):codeAny (model prog w) A (.compStart (.SetComp elt gens bsc epos) d it acc env) R u:=by
 refine codeAny_of_tree ?_
 show wpAny _ A ((compStart (.SetComp elt gens bsc epos) d it acc env).onRaise fun x => do noteFrame x env; standAt theWindowsPlace) _ _ u
 refine wpAny_notedAt ?_
 unfold compStart
 simp only [clausesOf,hg,Option.elim,ha,Bool.false_eq_true,if_false,pure_bind]
 refine wpAny_bind (wpAny_askSetting (wpAny_ite ?_))
 have c:=Bool.eq_false_or_eq_true (w.params.followText "comprehension-iter-twice")
 rcases c with c | c
 ·rw [if_pos (show ({ program:=(model prog w).prog,params:=(model prog w).w.params }:Setting).params.followText "comprehension-iter-twice" = true from c)]
  first
   | exact wpAny_pure ⟨rfl,h0⟩
   | exact wpAny_bind (wpAny_pure (wpAny_pure ⟨rfl,h0⟩))
 ·rw [if_neg (show ¬ ({ program:=(model prog w).prog,params:=(model prog w).w.params }:Setting).params.followText "comprehension-iter-twice" = true from fun z => by rw [show (model prog w).w.params.followText "comprehension-iter-twice" = false from c] at z; cases z)]
  have tail:wpAny (model prog w) A (standAt g.iter.pos >>= fun _ => pyIter it >>= fun z => again (.compLoop (.SetComp elt gens bsc epos) d z acc env)) (fun fin v => match fin with | .done f => R (.ok f) v | .again c' => c'.quiet = true∧codeAny (model prog w) A c' R v) (notedBy (model prog w) A env fun x v => R (.error x) v) u :=
   wpAny_bind (wpAny_standAt (wpAny_bind (thnF h1 fun z v hz => wpAny_pure ⟨rfl,hz⟩)))
  first
   | exact wpAny_bind (wpAny_rule tail)
   | exact wpAny_rule tail
section
variable {X:Cx}
def putW (K:PySem.W.Frag) (P:Program) (w:World) (D:Addr) (Nx:Hp→Prop):VK:=fun y H => ∃ (c:Addr) (k:List Key) (L:List (Addr × List Key)),y = .ref c∧H D = some (SetO P w D L)∧(∀ q ∈ L,SqT K H q.1 (q.2.map kV))∧SqT K H c (k.map kV)∧L.length + 1 ≤ 4000 ∧
 ∀ L',(k ∈ L.map (·.2)→L' = L)→(k ∉ L.map (·.2)→L'.Perm ((c,k) :: L))→Nx (upd H D (SetO P w D L'))
def innerW (K:PySem.W.Frag) (P:Program) (w:World) (σ : L2.St) (wi1:TI) (g1:TG) (te:TE) (vs vs1:List Nat) (D:Addr) (σ2:L2.St) (H2:Hp) (Nx:Hp→Prop):Prop :=
 wipe σ2 vs = wipe σ vs∧wi1 σ2 H2 fun J1 H4 => ∃ W1:Nat→Nat→Hp→Prop,(∃ m,W1 0 m H4)∧Rounds J1 W1 Nx fun x1 H5 Nx1 => g1 x1 (wipe σ2 vs1) H5 fun σ3 H6 => wipe σ3 vs1 = wipe σ2 vs1∧te σ3 H6 (putW K P w D Nx1)
theorem wipe_kept {σ : L2.St} {i:Nat} {v:V} {vs vs1:List Nat} (sub:∀ j ∈ vs1,j ∈ vs) (e:(wipe σ vs)[i]? = some (some v)):(wipe σ vs1)[i]? = some (some v):=by
 obtain ⟨e1,e2⟩:=wipe_some e
 rw [wipe_out fun z => e2 (sub i z)]
 exact e1
variable {el t0 i0 t1 i1:Expr} {bs:Scope} {p:Pos} {wi wi1:TI} {g g1:TG} {te:TE} {own:List (Str × Nat)} {vs1:List Nat}
theorem inner_run {B:Cx} {D:Addr} {σ σ2:L2.St} {H2:Hp} {pl:List (Addr × Obj)} {u:Shared} {Nx:Hp→Prop} {vs:List Nat} (hc:B.calm = true) (hxe:B.xe = fun _ _ => False) (hu:B.A.units + 64 < cLine) (sub:∀ j ∈ vs1,j ∈ vs)
  (pi1:PI B t1 i1 wi1) (pg1:PG B t1 g1) (pe:PE B el te) (hs1:∀ x,foldedSetIterable i1 B.env x = pure x) (I:Inv B pl σ2 H2 u) (h:innerW B.K B.prog B.w σ wi1 g1 te vs vs1 D σ2 H2 Nx) :
  wpAny (model B.prog B.w) B.A (innerBody el t0 i0 t1 i1 bs p (.ref D) B.env) (fun _ v => ∃ H',Inv B pl (wipe σ vs) H' v∧Nx H') (fun _ _ => False) u:=by
 obtain ⟨hw,h⟩:=h
 have r1:=pi1.run pl u σ2 H2 _ I h
 rw [hxe] at r1
 unfold innerBody
 refine wpAny_bind (thnF r1 fun xv u1 hx => wpAny_bind (wpAny_standAt ?_))
 rw [hs1]
 refine wpAny_bind (wpAny_pure (wpAny_bind (wpAny_holding (thnF hx fun itv u2 h2 => ?_))))
 obtain ⟨it1,fp1,tn1,J1,H4,rfl,I4,T1,st4,f4,W1,⟨m1,w1⟩,turn1⟩:=h2
 refine wpAny_bind (wpAny_runOwn ?_)
 rw [Around.mark_none]
 have run:=clause_run (B:=B) (elt:=el) (gens:=[⟨t0,i0,[],0⟩,⟨t1,i1,[],0⟩]) (bsc:=bs) (epos:=p) (d:=1) (acc:=.ref D) (σ0:=wipe σ2 vs1) (pn:=pl) (Qe:=Nx)
  (R:=fun r v => match r with | .ok _ => wpAny (model B.prog B.w) B.A (pure ()) (fun _ v => ∃ H',Inv B pl (wipe σ vs) H' v∧Nx H') (fun _ _ => False) v | .error e => cameBackBy (model B.prog B.w) B.A B.env (fun _ _ => False) e v)
  (Bp:=fun σ3 H6 Nx1 => wipe σ3 vs1 = wipe σ2 vs1∧te σ3 H6 (putW B.K B.prog B.w D Nx1)) hc (turn_in el t0 i0 t1 i1 bs p (.ref it1) (.ref D) B.env) T1 pg1 (fun H' hn v Iv c hcm => ⟨hn c hcm,(f4 c hcm).2⟩) turn1
  (fun pl' v σ3 H6 Nx1 I6 h6 => ?_) (fun v H' Iv nx => wpAny_pure ⟨H',Iv.weak (by rw [← hw,wipe_length,wipe_length]) (fun j x e => wipe_kept sub (by rw [hw]; exact e)),nx⟩) hxe m1 0 u2 H4
  (I4.weak (wipe_length _ _) fun j x e => (wipe_some e).1) st4 (fun c hcm => (f4 c hcm).1) w1
 ·exact start_any rfl rfl run (T1.self B.A 0 u2 _ _ st4 run)
 ·obtain ⟨hw3,h6⟩:=h6
  have r6:=pe.run _ v σ3 H6 _ I6 h6
  rw [hxe] at r6
  unfold addBody
  refine wpAny_bind (thnF r6 fun z v1 h1 => wpAny_bind (wpAny_standAt ?_))
  obtain ⟨y,H7,I7,ry,c,k,L,rfl,hD,its,hk,few,nx⟩:=h1
  cases ry
  refine wpAny_bind (addK_ok I7 hD its hk few hu fun v2 L' I8 c1 c2 => wpAny_pure ⟨_,I8.weak (by rw [← hw3,wipe_length]) (fun j x e => ?_),nx L' c1 c2⟩)
  rw [← hw3] at e
  exact (wipe_some e).1
theorem block_run {pins:List (Addr × Obj)} {σ : L2.St} {H3:Hp} {s3:Shared} {it D:Addr} {fp:List Addr} {tn:Nat→Heap→Prop} {J:It} {W:Nat→Nat→Hp→Prop} {m0:Nat} {Qe:Hp→Prop} {RR:Result→Shared→Prop}
  (hc:X.calm = true) (hN:X.N.Nodup) (hu:X.A.units + 64 < cLine) (ok:BlkOk X.N X.env.scope bs own) (sub:∀ j ∈ vs1,j ∈ own.map (·.2))
  (hg:∀ (s:Shared) (H:Hp) (C:Addr) (cl:List (Str × Addr)) (fp:List Addr),PG (X.blk s H bs (compEnvC bs cl C X.env) fp) t0 g)
  (hi1:∀ (s:Shared) (H:Hp) (C:Addr) (cl:List (Str × Addr)) (fp:List Addr),PI (X.blk s H bs (compEnvC bs cl C X.env) fp) t1 i1 wi1)
  (hg1:∀ (s:Shared) (H:Hp) (C:Addr) (cl:List (Str × Addr)) (fp:List Addr),PG (X.blk s H bs (compEnvC bs cl C X.env) fp) t1 g1)
  (he:∀ (s:Shared) (H:Hp) (C:Addr) (cl:List (Str × Addr)) (fp:List Addr),PE (X.blk s H bs (compEnvC bs cl C X.env) fp) el te) (hs1:∀ env x,foldedSetIterable i1 env x = pure x)
  (I3:Inv X pins σ H3 s3) (f3:∀ c ∈ fp,FpOk X pins H3 c∧c < s3.heap.objs.size) (T:Turn X.prog X.w X.K t0 J fp it tn) (st3:tn 0 s3.heap) (w0:W 0 m0 H3)
  (turn:Rounds J W Qe fun x H' Nx => g x (wipe σ (own.map (·.2))) H' fun σ2 H2 => innerW X.K X.prog X.w σ wi1 g1 te (own.map (·.2)) vs1 D σ2 H2 Nx)
  (fin:∀ u m H',Inv X pins σ H' u→Qe H'→u.heap.Ns s3.heap.objs.size m→FpOk X pins H' s3.heap.objs.size→RR (.ok .next) u) :
  codeAny (model X.prog X.w) X.A (.compStart (SC el t0 i0 t1 i1 bs p) 0 (.ref it) (.ref D) (compEnvC bs (cellsFrom (s3.heap.objs.size + 1) bs.names (cloFrom X.env.cells bs.names [])) s3.heap.objs.size X.env)) RR
   {s3 with heap:=pushCells (s3.heap.push { cls:=.type "dict",data:=.dict #[] }) bs.names }:=by
 have I4:=block_start I3 ok hN f3
 have a1:=hg s3 H3 s3.heap.objs.size (cellsFrom (s3.heap.objs.size + 1) bs.names (cloFrom X.env.cells bs.names [])) fp
 have a2:=hi1 s3 H3 s3.heap.objs.size (cellsFrom (s3.heap.objs.size + 1) bs.names (cloFrom X.env.cells bs.names [])) fp
 have a3:=hg1 s3 H3 s3.heap.objs.size (cellsFrom (s3.heap.objs.size + 1) bs.names (cloFrom X.env.cells bs.names [])) fp
 have a4:=he s3 H3 s3.heap.objs.size (cellsFrom (s3.heap.objs.size + 1) bs.names (cloFrom X.env.cells bs.names [])) fp
 generalize hce:compEnvC bs (cellsFrom (s3.heap.objs.size + 1) bs.names (cloFrom X.env.cells bs.names [])) s3.heap.objs.size X.env = ce at I4 a1 a2 a3 a4 ⊢
 have cL:ce.locals = s3.heap.objs.size:=by subst hce; rfl
 generalize hs4:({ s3 with heap:=pushCells (s3.heap.push { cls:=.type "dict",data:=.dict #[] }) bs.names }:Shared) = s4 at I4 ⊢
 have st4:tn 0 s4.heap:=T.keep _ _ _ st3 fun c _ o q => by rw [← hs4]; exact pushCells_keeps _ _ _ _ (Heap.get?_push_of_some _ q)
 have run:=clause_run (B:=X.blk s3 H3 bs ce fp) (elt:=el) (gens:=[⟨t0,i0,[],0⟩,⟨t1,i1,[],0⟩]) (bsc:=bs) (epos:=p) (d:=0) (acc:=.ref D) (σ0:=wipe σ (own.map (·.2))) (pn:=[]) (Qe:=Qe) (R:=RR)
  (Bp:=fun σ2 H2 Nx => innerW X.K X.prog X.w σ wi1 g1 te (own.map (·.2)) vs1 D σ2 H2 Nx) hc (turn_out el t0 i0 t1 i1 bs p (.ref it) (.ref D) ce) T a1
  (fun H' hn v Iv c hcm => ⟨hn c hcm,(Iv.ok.exf c hcm).1,Iv.ok.exfs c hcm,.inl hcm,fun x a q => (Iv.ok.exf c hcm).2 x a q,fun q hq => absurd (show q ∈ ([]:List (Addr × Obj)) ++ [] from hq) (by simp)⟩) turn
  (fun pl v σ2 H2 Nx Iv hv => inner_run (B:=X.blk s3 H3 bs ce fp) hc rfl hu sub a2 a3 a4 (fun x => hs1 ce x) Iv hv) (fun v H' Iv hq => ?_) rfl m0 0 s4 H3 I4 st4 (fun c hcm => (f3 c hcm).1.1) w0
 ·exact start_any rfl rfl run (T.self X.A 0 s4 _ _ st4 run)
 ·have Ix:Inv X pins σ H' v:=I3.call' (ch:=fp) Iv.os Iv.base Iv.hok Iv.bare fun c hcm => by
   obtain ⟨_,z1,_,z3,z4,z5⟩:=(f3 c hcm).1
   exact ⟨z3,z1,z4,z5⟩
  have nC:H' s3.heap.objs.size = none:=by
   have z:H' ce.locals = none:=Iv.free
   rwa [cL] at z
  obtain ⟨m,hn,_⟩:=Iv.loc
  have hn':v.heap.Ns ce.locals m:=hn
  rw [cL] at hn'
  exact fin v m H' Ix hq hn' (I3.fpOk (Nat.le_refl _) nC)
end
end PLs
set_option maxHeartbeats 4000000
namespace PL
open PySem PySem.Spec PyProof.Rows L2 PLs
theorem setO_stays {P:Program} {w:World} {K:PySem.W.Frag} {mg:Str→Option Value} {ι1 ι : List Addr} {H1 H:Hp} {S:Sto} {D:Addr} {L L':List (Addr × List Key)} (hD:H1 D = none) (e:Ext ι1 H1 ι H) (r:RSt ΩP Ωw K mg ι H S) (nin:D ∉ ι) (h:H D = some (SetO P w D L)) :
  Ext ι1 H1 ι (upd H D (SetO P w D L'))∧RSt ΩP Ωw K mg ι (upd H D (SetO P w D L')) S∧ExtW ι H ι (upd H D (SetO P w D L')):=by
 have ne:∀ {a:Addr} {o:HO},H1 a = some o→a ≠ D:=fun q z => by rw [z,hD] at q; cases q
 have eb:ExtW ι H ι (upd H D (SetO P w D L')):=⟨fun _ _ h => h,fun a xs q => by rw [upd_ne (fun z => by rw [z,h] at q; cases q)]; exact q,fun a o u q => by rw [upd_ne (fun z => by rw [z,h] at q; cases q)]; exact q⟩
 refine ⟨⟨e.pre,fun a o q n => by rw [upd_ne (ne q)]; exact e.fr a o q n,e.new,fun a xs q => by rw [upd_ne (ne q)]; exact e.tups a xs q,fun a o u q => by rw [upd_ne (ne q)]; exact e.frzs a o u q⟩,⟨r.len,r.nd,fun l a o e1 e2 => ?_⟩,eb⟩
 have k:upd H D (SetO P w D L') a = H a:=upd_ne fun z => nin (z ▸ List.mem_of_getElem? e1)
 have ho:=r.obj l a o e1 e2
 cases o with
 | lst xs => obtain ⟨vs,q,z⟩:=ho; exact ⟨vs,k.trans q,RpL.upW eb _ _ z⟩
 | dct xs => obtain ⟨vs,q,z⟩:=ho; exact ⟨vs,k.trans q,RpF.upW eb z⟩
 | ins C fs => obtain ⟨Ca,dx,vs,m,q,z⟩:=ho; exact ⟨Ca,dx,vs,m,k.trans q,RpF.upW eb z⟩
 | dtp xs => obtain ⟨vs,q,y,z⟩:=ho; exact ⟨vs,k.trans q,fun x hx => (y x hx).upW eb,RpF.upW eb z⟩
 | tab nm q => exact ⟨TabZ.to ho.1 k eb.frzs,ho.2⟩
 | exc C p => obtain ⟨oe,Ca,dd,x,q,m,c1,c2,c3,nd,hd,r⟩:=ho; exact ⟨oe,Ca,dd,x,k.trans q,m,c1,c2,c3,nd,(upd_ne fun z => by rw [z,h] at hd; cases hd).trans hd,Rp.upW eb _ _ r⟩
 | ndt xs => obtain ⟨vs,q,z,r⟩:=ho; exact ⟨vs,k.trans q,fun x hx => ⟨(z x hx).1,(z x hx).2.mono eb.frzs⟩,RpF.upW eb r⟩
section
variable {X:Cx} {W:WX}
structure Seen (X:Cx) (ι1:List Addr) (H1:Hp) (S:Sto) (D:Addr) (seen:List TK) (ι : List Addr) (H:Hp):Prop where
 ext:Ext ι1 H1 ι H
 rs:RSt X.prog X.w X.K X.mg ι H S
 nin:D ∉ ι
 at_:∃ L:List (Addr × TK),H D = some (SetO X.prog X.w D L)∧(∀ q ∈ L,FzT X.K H q.1 (q.2.map kV))∧(L.map (·.2)).Nodup∧(∀ k,k ∈ L.map (·.2)↔k ∈ seen)∧L.length ≤ seen.length
theorem Seen.up {ι1 ι ι':List Addr} {H1 H H':Hp} {S:Sto} {D:Addr} {seen:List TK} (s:Seen X ι1 H1 S D seen ι H) (e:Ext ι H ι' H') (r:RSt X.prog X.w X.K X.mg ι' H' S):Seen X ι1 H1 S D seen ι' H':=by
 obtain ⟨L,z1,z2,z3,z4,z5⟩:=s.at_
 refine ⟨s.ext.trans e,r,fun hm => ?_,L,e.fr D _ z1 s.nin,fun q hq => (z2 q hq).mono e,z3,z4,z5⟩
 rcases e.new D hm with z | z
 ·exact s.nin z
 ·rw [z1] at z; cases z
theorem Seen.put {ι1 ι : List Addr} {H1 H:Hp} {S:Sto} {D c:Addr} {seen:List TK} {k:TK} (s:Seen X ι1 H1 S D seen ι H) (hD:H1 D = none) (hk:FzT X.K H c (k.map kV)) {L L':List (Addr × TK)} (hL:H D = some (SetO X.prog X.w D L)) (its:∀ q ∈ L,FzT X.K H q.1 (q.2.map kV)) (nd:(L.map (·.2)).Nodup) (mem:∀ k,k ∈ L.map (·.2)↔k ∈ seen) (le:L.length ≤ seen.length)
  (c1:k ∈ L.map (·.2)→L' = L) (c2:k ∉ L.map (·.2)→L'.Perm ((c,k) :: L)):Seen X ι1 H1 S D (seen ++ [k]) ι (upd H D (SetO X.prog X.w D L'))∧ExtW ι H ι (upd H D (SetO X.prog X.w D L')):=by
 obtain ⟨E,r,eb⟩:=setO_stays (L':=L') hD s.ext s.rs s.nin hL
 refine ⟨⟨E,r,s.nin,L',upd_same,?_⟩,eb⟩
 by_cases hm:k ∈ L.map (·.2)
 ·have el:=c1 hm
  subst el
  refine ⟨fun q hq => (its q hq).upW eb,nd,fun x => ?_,by simp; omega⟩
  rw [mem x,List.mem_append,List.mem_singleton]
  exact ⟨.inl,fun z => z.elim id fun e => e ▸ (mem k).mp hm⟩
 ·have pm:=c2 hm
  refine ⟨fun q hq => ?_,(pm.map _).nodup_iff.mpr (by rw [List.map_cons]; exact List.nodup_cons.mpr ⟨hm,nd⟩),fun x => ?_,by have:=pm.length_eq; simp at this ⊢; omega⟩
  ·rcases List.mem_cons.mp (pm.mem_iff.mp hq) with z | z
   ·rw [z]; exact hk.upW eb
   ·exact (its q z).upW eb
  ·rw [(pm.map (·.2)).mem_iff,List.map_cons,List.mem_cons,mem x,List.mem_append,List.mem_singleton]
   exact ⟨fun z => z.elim .inr .inl,fun z => z.elim .inr .inl⟩
end
end PL
set_option maxHeartbeats 4000000
namespace PLz
open PySem PySem.Spec PyProof.Rows L2
theorem RawB.ob {k:Bool} {h:Heap} {a:Addr} {its:Array Value} (r:RawB k h a its):∃ o,h.get? a = some o:=by
 cases k <;> obtain ⟨o,ho,_⟩:=r <;> exact ⟨o,ho⟩
end PLz
namespace PL
open PySem PySem.Spec PyProof.Rows L2 PLz
section
variable {X:Cx} {W:WX} {a b:Expr} {ma mb:EM PV} {pos:Pos}
end
end PL
set_option maxHeartbeats 4000000
namespace PLz
open PySem PySem.Spec PyProof.Rows L2
section
variable {prog:Program} {w:World} {A:Around} {R:Result→Shared→Prop}
abbrev Parts:=List (Addr × List Value)
def PartsAt (h:Heap) (ps:Parts):Prop:=∀ p ∈ ps,∃ n,IsL h p.1 p.2.toArray n
theorem PartsAt.up {h h':Heap} {ps:Parts} (x:PartsAt h ps) (k:∀ p ∈ ps,∀ o,h.get? p.1 = some o→h'.get? p.1 = some o):PartsAt h' ps:=fun p hp => (x p hp).elim fun n e => ⟨n,k p hp _ e⟩
end
end PLz
namespace PL
open PySem PySem.Spec PyProof.Rows L2 PLz
section
variable {X:Cx} {W:WX}
end
end PL
namespace PL
open PySem PySem.Spec PyProof.Rows L2
section
variable {X:Cx} {W:WX} {e:Expr} {es:List Expr} {mas:EM (List PV)} {pos:Pos}
end
end PL
namespace PL
open PySem PySem.Spec PyProof.Rows L2
def nonHit:Value→Bool
 | .none => true
 | _ => false
def nonsP:List PV→Option Bool
 | [] => some false
 | .non :: r => (nonsP r).map fun _ => true
 | .tup _ :: r => nonsP r
 | _ => none
section
variable {X:Cx}
theorem nons_at {A:Around} {pins:List (Addr × Obj)} {σ : L2.St} {H:Hp} {s:Shared} {ι : List Addr} (I:Inv X pins σ H s) (hu:A.units < cLine):∀ {xs:List PV} {vs:List V} {us:List Value} {b:Bool},nonsP xs = some b→RpL X.K ι H xs vs→Vals vs us →
  us.any nonHit = b∧∀ u ∈ us,SeqAt.EqAt A s u .none (nonHit u)
 | [],vs,us,b,h,h1,h2 => by
  cases (show vs = [] from h1)
  cases h2
  simp only [nonsP,Option.some.injEq] at h
  subst h
  exact ⟨rfl,fun u hu => by cases hu⟩
 | x :: xs,vs,us,b,h,h1,h2 => by
  obtain ⟨v,vr,rfl,r1,r2⟩:=h1
  cases h2 with
  | cons ru t =>
   cases x with
   | non =>
    simp only [nonsP,Option.map_eq_some_iff] at h
    obtain ⟨c,hc,rfl⟩:=h
    obtain ⟨e1,e2⟩:=nons_at I hu hc r2 t
    cases (show v = .non from r1)
    cases ru
    refine ⟨by simp [nonHit],fun u hm => ?_⟩
    rcases List.mem_cons.mp hm with z | z
    ·rw [z]; exact SeqAt.EqAt.same _
    ·exact e2 u z
   | tup ys =>
    simp only [nonsP] at h
    obtain ⟨e1,e2⟩:=nons_at I hu h r2 t
    obtain ⟨a,ws,rfl,h3,_⟩:=r1
    cases ru
    obtain ⟨its,_,ht,_⟩:=I.tuple h3.seq
    refine ⟨by rw [List.any_cons,e1]; rfl,fun u hm => ?_⟩
    rcases List.mem_cons.mp hm with z | z
    ·rw [z]; exact SeqAt.EqAt.tuple_none ht hu
    ·exact e2 u z
   | _ => cases h
def neNilP:Op2:=fun p q S => match p,q with
 | .loc l,.loc k => (match S[l]?,S[k]? with | some (.lst xs),some (.lst []) => some (.bl (!xs.isEmpty),S) | _,_ => none)
 | _,_ => none
theorem og_neNil (hu:X.A.units + 64 < cLine):OpR X (compareOp .NotEq) (gOp X neNilP):=by
 intro pins s σ H x y v u Q I rx ry ⟨ι,S,p,q,z,S',rs,rp,rq,hf,k⟩
 unfold neNilP at hf
 split at hf
 case h_2 => cases hf
 split at hf
 case h_2 => cases hf
 rename_i xs e1 e2
 cases hf
 obtain ⟨a,rfl,h1⟩:=rp
 obtain ⟨b,rfl,h2⟩:=rq
 obtain ⟨vs,h3,h4⟩:=rs.obj _ a _ h1 e1
 obtain ⟨ws,h5,h6⟩:=rs.obj _ b _ h2 e2
 cases (show ws = [] from h6)
 cases rx
 cases ry
 obtain ⟨its,r1,t1,_⟩:=I.list (.of h3)
 obtain ⟨jts,r2,t2,_⟩:=I.list (.of h5)
 cases r2
 have fin:=k ι H (.bl (!xs.isEmpty)) .refl rs rfl
 have hlen:=h4.length
 have hl2:=r1.length
 cases xs with
 | nil =>
  have:its = []:=List.length_eq_zero_iff.mp (by simp at hlen; omega)
  subst this
  exact SeqAt.RcNeAt.lists (e:=fun _ => true) t1.isList t2.isList rfl (by omega) (fun j h => absurd h (by simp)) _ _ _ _ ⟨.bl false,H,I,rfl,fin⟩
 | cons x xs =>
  have:its.length ≠ 0:=by simp at hlen; omega
  exact SeqAt.RcNeAt.lists_lengths t1.isList t2.isList (by simpa using this) (by omega) _ _ _ _ ⟨.bl true,H,I,rfl,fin⟩
end
@[simp] theorem neNilP_ap (l k:Nat) (S:Sto):neNilP (.loc l) (.loc k) S = match S[l]?,S[k]? with | some (.lst xs),some (.lst []) => some (.bl (!xs.isEmpty),S) | _,_ => none:=rfl
end PL
namespace PL
open PySem PySem.Spec PyProof.Rows L2
section
variable {X:Cx} {W:WX} {a b:Expr} {ms:EM (List PV)} {pos:Pos}
end
end PL
set_option maxHeartbeats 4000000
namespace PLs
open PySem PySem.Spec PyProof.Rows L2
section
variable {P:Program} {w:World} {K:Type} [DecidableEq K] {S:SKind P w K} {A:Around} {E:Value→Shared→Prop} {s:Shared}
end
end PLs
namespace PLs
open PySem PySem.Spec PyProof.Rows L2
section
variable {X:Cx}
end
end PLs
namespace PL
open PySem PySem.Spec PyProof.Rows L2 PLs
section
variable {X:Cx} {W:WX} {a:Expr} {ma:EM PV} {p p2 q pos:Pos}
end
end PL
namespace PL
open PySem PySem.Spec PyProof.Rows L2
end PL
namespace PL
open PySem PySem.Spec PyProof.Rows L2
section
variable {X:Cx} {W:WX} {a:Expr} {ma:EM PV} {p q pos:Pos}
end
end PL
namespace PL
open PySem PySem.Spec PyProof.Rows L2
end PL
set_option maxHeartbeats 4000000
namespace PLs
open PySem PySem.Spec PyProof.Rows L2
def kO (v:Value):Key:=match v with
 | .int i _ => .inl i
 | .str x _ => .inr x
 | _ => .inl 0
def EntK (w:World) (e:Int × Value):Prop:=keyIs (kO e.2) e.2 = true∧e.1 = keyH w (kO e.2)
theorem kO_of {k:Key} {v:Value} (h:keyIs k v = true):kO v = k:=by
 rcases keyIs_shape h with ⟨i,t,rfl,rfl⟩ | ⟨x,t,rfl,rfl⟩ <;> rfl
theorem scan_of {k:Key} {v:Value} (h:keyIs k v = true):v.scannable = true:=by
 rcases keyIs_shape h with ⟨i,t,rfl,rfl⟩ | ⟨x,t,rfl,rfl⟩ <;> rfl
def SetV (w:World) (h:Heap) (a:Addr) (ks:List Key):Prop :=
 ∃ o es ep t,h.get? a = some o∧o.ExactSet∧o.data = .set es ep t∧(∀ e ∈ es.toList,EntK w e)∧(es.toList.map fun e => kO e.2).Perm ks∧ks.Nodup∧es.size < scanBound∧t.fits es.size = true∧Ris t.place.toList∧(w.params.followText "set-order" = true ∨ t.led = true)
theorem SetV.up {w:World} {h h':Heap} {a:Addr} {ks:List Key} (R:SetV w h a ks) (k:∀ o,h.get? a = some o→h'.get? a = some o):SetV w h' a ks:=by
 obtain ⟨o,es,ep,t,ho,r⟩:=R
 exact ⟨o,es,ep,t,k o ho,r⟩
section
variable {P:Program} {w:World} {A:Around} {E:Value→Shared→Prop} {s:Shared} {a:Addr} {ks:List Key}
theorem ents {es:List (Int × Value)} (g:∀ e ∈ es,EntK w e):ElemsOf (mixKind P w) es:=fun e he =>
 ⟨⟨kO e.2,(g e he).1,(g e he).2⟩,scan_of (g e he).1⟩
theorem SetV.size {es:Array (Int × Value)} (pm:(es.toList.map fun e => kO e.2).Perm ks):es.size = ks.length:=by
 rw [← pm.length_eq,List.length_map,Array.length_toList]
theorem add_end {g:Bool→Sem Unit} (hg:∀ (b:Bool) (u:Shared) (Q:Unit→Shared→Prop),Q () u→wpAny (model P w) A (g b) Q E u) {o:Obj} {es es1:Array (Int × Value)} {ep:Nat} {t t2:SetTable} {k1:List Key}
  (ho:s.heap.get? a = some o) (hex:o.ExactSet) (hd:o.data = .set es ep t) (ge:∀ e ∈ es1.toList,EntK w e) (pm:(es1.toList.map fun e => kO e.2).Perm k1) (nd:k1.Nodup) (few:es1.size < scanBound) (fit:t2.fits es1.size = true)
  (ris:Ris t2.place.toList) (led:w.params.followText "set-order" = true ∨ t2.led = true) {dm:Bool} {Q:Option Bool→Shared→Prop} (hQ:∀ h',Heap.SameBut a s.heap h'→SetV w h' a k1→Q (some true) { s with heap:=h' }) :
  wpAny (model P w) A (do
    storeSet a es1 t2
    if (!dm && t2.tooFull) = true then do
      g (relayAll t2 es1 (SetTable.grown es1.size)).2.2
      storeSet a (relayAll t2 es1 (SetTable.grown es1.size)).1 (relayAll t2 es1 (SetTable.grown es1.size)).2.1
      pure (some true)
     else pure (some true)) Q E s:=by
 have at1:=store_at (es':=es1) (t':=t2) ho hd
 have same1:=Heap.SameBut.update s.heap a (Obj.putSet es1 t2)
 refine wpAny_bind (wpAny_storeSet_of ho hd ?_ (fits_of_scanBound few))
 by_cases full:(!dm && t2.tooFull) = true
 ·rw [if_pos full]
  have q1:=relayAll_perm t2 es1 (SetTable.grown es1.size)
  have q2:=relayAll_fits t2 es1 (SetTable.grown es1.size)
  have q3:=relayAll_ris t2 es1 (SetTable.grown es1.size)
  have q4:=relayAll_led t2 es1 (SetTable.grown es1.size)
  generalize relayAll t2 es1 (SetTable.grown es1.size) = new at q1 q2 q3 q4 ⊢
  obtain ⟨es2,t3,gv⟩:=new
  simp only at q1 q2 q3 q4 ⊢
  have sz:es2.size = es1.size:=by have:=q1.length_eq; simpa using this
  refine wpAny_bind (hg gv _ _ (wpAny_bind (wpAny_storeSet_of at1 rfl ?_ (fits_of_scanBound (sz ▸ few)))))
  have at2:=store_at (es':=es2) (t':=t3) at1 rfl
  exact wpAny_pure (hQ _ (same1.trans (.update _ a _)) ⟨_,es2,_,t3,at2,hex,rfl,fun e he => ge e (q1.mem_iff.mp he),(q1.map _).trans pm,nd,sz ▸ few,q2,q3,led.imp id fun z => q4.trans z⟩)
 ·rw [if_neg full]
  exact wpAny_pure (hQ _ same1 ⟨_,es1,_,t2,at1,hex,rfl,ge,pm,nd,few,fit,ris,led⟩)
open Classical in
theorem add_key (R:SetV w s.heap a ks) {k:Key} {v:Value} (hv:keyIs k v = true) (room:ks.length + 1 < scanBound) {Q:Bool→Shared→Prop}
  (hQ:∀ b h',Heap.SameBut a s.heap h'→SetV w h' a (if k ∈ ks then ks else k :: ks)→Q b { s with heap:=h' }):wpAny (model P w) A (setAddHashed a v (keyH w k)) Q E s:=by
 have R0:=R
 obtain ⟨o,es,ep,t,ho,hex,hd,ge,pm,nd,few,fit,ris,led⟩:=R
 have el:ElemsOf (mixKind P w) es.toList:=ents ge
 have hsc:=scan_of hv
 have sz:=SetV.size pm
 have isAt:∀ e ∈ es.toList,(keyIs k e.2 = true↔kO e.2 = k):=fun e he => ⟨fun z => kO_of z,fun z => z ▸ (ge e he).1⟩
 unfold setAddHashed setAddHashedIn
 refine wpAny_holding (wpAny_bind (wpAny_setState_of ho hd fit ?_))
 simp only [byScan_of hsc few el,if_true]
 unfold setAddByScan
 refine wpAny_bind (wpAny_bind (wpAny_rule (wpAny_bind (wpAny_setScan_of (knd:=mixKind P w) (k:=k) hv ho hd fit el ?_))))
 cases hf:es.toList.findIdx? (fun e => (mixKind P w).is k e.2) with
 | some j =>
  obtain ⟨hj,pj,_⟩:=List.findIdx?_eq_some_iff_getElem.mp hf
  have hin:k ∈ ks:=pm.mem_iff.mp (List.mem_map.mpr ⟨_,List.getElem_mem hj,(isAt _ (List.getElem_mem hj)).mp pj⟩)
  refine wpAny_pure (wpAny_pure (hQ false s.heap (.refl a s.heap) ?_))
  rw [if_pos hin]
  exact R0
 | none =>
  have hno:k ∉ ks:=fun z => by
   obtain ⟨e,he,q⟩:=List.mem_map.mp (pm.mem_iff.mpr z)
   have:=List.findIdx?_eq_none_iff.mp hf e he
   rw [show (mixKind P w).is k e.2 = keyIs k e.2 from rfl,(isAt e he).mpr q] at this
   cases this
  rw [if_neg hno] at hQ
  have n1:=layNew_perm t es (keyH w k) v
  have n2:=layNew_fits t es (keyH w k) v
  have n3:=layNew_ris t es (keyH w k) v ris
  have n4:=layNew_led t es (keyH w k) v
  dsimp only
  generalize layNew t es (keyH w k) v = new at n1 n2 n3 n4 ⊢
  obtain ⟨es1,t1,dm,gv⟩:=new
  simp only at n1 n2 n3 n4 ⊢
  rw [Array.toList_push] at n1
  have n5:es1.toList.Perm ((keyH w k,v) :: es.toList):=n1.trans (List.perm_append_singleton _ _)
  have ge1:∀ e ∈ es1.toList,EntK w e:=fun e he => by
   rcases List.mem_cons.mp (n5.mem_iff.mp he) with rfl | z
   ·exact ⟨by rw [kO_of hv]; exact hv,by rw [kO_of hv]⟩
   ·exact ge e z
  have pm1:(es1.toList.map fun e => kO e.2).Perm (k :: ks):=by
   have:=n5.map fun e => kO e.2
   rw [List.map_cons,kO_of hv] at this
   exact this.trans (pm.cons k)
  have sz1:es1.size = ks.length + 1:=SetV.size pm1
  have led1:w.params.followText "set-order" = true ∨ t1.led = true:=led.imp id fun z => n4.trans z
  have gw:∀ (b:Bool) (u:Shared) (Q:Unit→Shared→Prop),Q () u→wpAny (model P w) A (match b with | true => rule "set.scan.the-table-gave-way" | false => pure ()) Q E u:=fun b u Q q => by
   cases b
   ·exact wpAny_pure q
   ·exact wpAny_rule q
  have nd1:=List.nodup_cons.mpr ⟨hno,nd⟩
  have few1:es1.size < scanBound:=by rw [sz1]; exact room
  refine wpAny_bind (gw gv _ _ ?_)
  by_cases hp:t1.plain = true
  ·rw [if_pos hp,hashByValue_scannable 8 hsc]
   refine wpAny_bind (wpAny_pure ?_)
   cases plainKind v
   ·exact add_end gw ho hex hd ge1 pm1 nd1 few1 (SetTable.fits_plain_off n2) n3 led1 fun h' sb r => wpAny_pure (hQ true h' sb r)
   ·exact add_end gw ho hex hd ge1 pm1 nd1 few1 n2 n3 led1 fun h' sb r => wpAny_pure (hQ true h' sb r)
  ·rw [if_neg hp]
   refine wpAny_bind (wpAny_pure ?_)
   exact add_end gw ho hex hd ge1 pm1 nd1 few1 n2 n3 led1 fun h' sb r => wpAny_pure (hQ true h' sb r)
end
end PLs
set_option maxHeartbeats 4000000
namespace PLs
open PySem PySem.Spec PyProof.Rows PySem.W L2
section
variable {P:Program} {w:World} {A:Around} {E:Value→Shared→Prop} {s:Shared}
structure HadV (vs:List Value) (i:Nat) (L:List Key):Prop where
 of:∀ k ∈ L,∃ v ∈ vs.take i,kO v = k
 to:∀ v ∈ vs.take i,kO v ∈ L
 le:L.length ≤ i
theorem HadV.none (vs:List Value):HadV vs 0 []:=⟨by simp,by simp,Nat.le_refl _⟩
open Classical in
theorem HadV.step {vs:List Value} {L:List Key} {i:Nat} {v:Value} (g:HadV vs i L) (e:vs[i]? = some v):HadV vs (i + 1) (if kO v ∈ L then L else kO v :: L):=by
 have tk:vs.take (i + 1) = vs.take i ++ [v]:=by rw [List.take_succ,e]; rfl
 refine ⟨fun k hk => ?_,fun u hu => ?_,?_⟩
 ·rw [tk]
  have up:∀ k ∈ L,∃ u ∈ vs.take i ++ [v],kO u = k:=fun k hk => by
   obtain ⟨u,hu,q⟩:=g.of k hk
   exact ⟨u,by simp [hu],q⟩
  split at hk
  ·exact up k hk
  ·rcases List.mem_cons.mp hk with z | z
   ·exact ⟨v,by simp,z.symm⟩
   ·exact up k z
 ·rw [tk] at hu
  rcases List.mem_append.mp hu with z | z
  ·have:=g.to u z
   split
   ·exact this
   ·exact List.mem_cons_of_mem _ this
  ·rw [List.mem_singleton.mp z]
   split
   ·assumption
   ·simp
 ·have:=g.le
  split
  ·omega
  ·simp; omega
theorem SetV.new {h:Heap} {a:Addr} (e:h.get? a = some (freshObj w)):SetV w h a [] :=
 ⟨_,#[],0,_,e,⟨rfl,rfl,rfl⟩,rfl,by simp,by simp,List.nodup_nil,by decide,by rfl,List.Pairwise.nil,by
  show _ ∨ (!w.params.followText "set-order") = true
  cases w.params.followText "set-order"
  ·exact .inr rfl
  ·exact .inl rfl⟩
open Classical in
theorem put_all {I:Addr} {fp wr:List Addr} {G:Array GenState→Array GenState→Prop} {n:Nat} {Pv:Nat→Value→Prop} {St:Nat→Shared→Prop} {R:Result→Shared→Prop}
  (W:WalksS P w A.in1 I fp wr G n Pv St) (d:Addr) (hd:d ∉ fp) (vs:List Value) (hn:n = vs.length) (few:vs.length ≤ 4000) (hv:∀ i v,Pv i v→vs[i]? = some v) (isk:∀ v ∈ vs,keyIs (kO v) v = true)
  (base:Heap) (hd0:base.get? d = none) (hw0:∀ b ∈ wr,base.get? b = none) :
  ∀ (m i:Nat) (s:Shared),n - i = m→i ≤ n→St i s→(∀ b o,base.get? b = some o→s.heap.get? b = some o)→(∃ L,SetV w s.heap d L∧HadV vs i L) →
   (∀ s' L,Moved (d :: wr) G s s'→SetV w s'.heap d L→HadV vs n L→(∀ b o,base.get? b = some o→s'.heap.get? b = some o)→R (.ok (.ret .none)) s') →
   codeAny (model P w) A (.builtin "set.update.loop" ⟨[.ref d,.ref I],[]⟩) R s:=by
 have ndw:d ∉ wr:=fun z => hd (W.sub _ z)
 have wider:∀ b ∈ wr,b ∈ d :: wr:=fun b hb => List.mem_cons_of_mem _ hb
 have stays:∀ {u v:Shared},Moved wr G u v→(∀ b o,base.get? b = some o→u.heap.get? b = some o)→∀ b o,base.get? b = some o→v.heap.get? b = some o:=fun mv k b o e =>
  mv.heap b o (fun z => by rw [hw0 b z] at e; cases e) (k b o e)
 intro m
 induction m with
 | zero =>
  intro i s hm hi st k ⟨L,B,g⟩ fin
  obtain rfl:i = n:=by omega
  refine codeAny_builtin F.entry_set_update_loop ?_
  rw [Around.under_plainId F.plain_set_update_loop _]
  show wpAny _ A.in1 (pyNext (.ref I) >>= _) _ _ s
  refine wpAny_bind (W.done s _ _ st fun s' mv => ?_)
  show wpAny _ A.in1 (ret Value.none) _ _ s'
  exact wpAny_pure (fin s' L (mv.mono wider) (B.up fun o e => mv.heap d o ndw e) g (stays mv k))
 | succ m ih =>
  intro i s hm hi st k ⟨L,B,g⟩ fin
  refine codeAny_builtin F.entry_set_update_loop ?_
  rw [Around.under_plainId F.plain_set_update_loop _]
  show wpAny _ A.in1 (pyNext (.ref I) >>= _) _ _ s
  refine wpAny_bind (W.item i s _ _ (by omega) st fun v s' hP st' mv => ?_)
  have hp:=hv i v hP
  have k':=stays mv k
  have B':SetV w s'.heap d L:=B.up fun o e => mv.heap d o ndw e
  have hx:=isk v (List.mem_of_getElem? hp)
  show wpAny _ A.in1 (holding [v] (setAdd d v) >>= _) _ _ s'
  refine wpAny_bind (wpAny_holding ?_)
  unfold setAdd
  refine wpAny_holding (wpAny_bind ((mixKind P w).pyHash (k:=kO v) hx ?_))
  refine add_key (s:={ s' with toks:=s'.toks + 1 }) B' hx (by have:=g.le; unfold scanBound; omega) fun b h' sb B2 => ?_
  have k2:∀ b o,base.get? b = some o→h'.get? b = some o:=fun b o e => (sb.2 b fun z => by rw [z,hd0] at e; cases e).trans (k' b o e)
  refine wpAny_pure ⟨plainId_quiet F.plain_set_update_loop _,ih (i + 1) _ (by omega) (by omega) (W.frame _ s' _ _ st' (Nat.le_succ _) fun b hb o e => by rw [sb.2 b fun z => hd (by rw [← z]; exact hb)]; exact e) k2 ⟨_,B2,g.step hp⟩ fun s'' L2 mv2 B3 g3 k3 => ?_⟩
  exact fin s'' L2 (Moved.trans W.gtrans ((mv.mono wider).then_heap (Nat.le_succ _) fun b o hb e => by rw [sb.2 b fun z => hb (by rw [z]; simp)]; exact e) mv2) B3 g3 k3
theorem setV_of_list {l:Addr} {items:Array Value} {Q:Value→Shared→Prop} (hh:A.handled = none) (hl:s.heap.IsList l items) (isk:∀ v ∈ items.toList,keyIs (kO v) v = true) (few:items.toList.length ≤ 4000)
  (fin:∀ (h':Heap) (tk:Nat) L,SetV w h' s.heap.objs.size L→HadV items.toList items.toList.length L→(∀ b o,s.heap.get? b = some o→h'.get? b = some o)→Q (.ref s.heap.objs.size) { s with heap:=h',toks:=tk }) :
  wpAny (model P w) A (call (.type "set") [.ref l]) Q E s:=by
 have len:items.size = items.toList.length:=by rw [Array.length_toList]
 have at_:∀ (i:Nat) (v:Value),items[i]? = some v→items.toList[i]? = some v:=fun i v e => by
  rw [Array.getElem?_toList]; exact e
 have out_:∀ b,s.heap.objs.size ≤ b→s.heap.get? b = none:=fun b hb => by
  cases q:s.heap.get? b with
  | none => rfl
  | some o => exact absurd (Heap.lt_size q) (Nat.not_lt_of_le hb)
 generalize hD:s.heap.objs.size = D at fin out_
 obtain ⟨c,tl,f_mro⟩:=F.called_set.mro
 have f_made:=F.called_set.made
 have f_sub:=F.called_set.sub
 have f_nt:=F.called_set.notType
 have f_cc:=F.called_set.canCreate
 have f_tc:=F.typeCall_set_1 (.ref l)
 refine wpAny_call (codeAny_of_tree ?_)
 show wpAny _ _ (callAny (.type "set") _) _ _ _
 refine wpAny_pure ⟨Code.quiet_builtin _ (by decide +kernel),codeAny_builtin F.entry_type_call ?_⟩
 rw [Around.under_plain (weight_type_call_type "set" [.ref l] []) rfl]
 repeat (any_goals (first | assumption | wp_step))
 refine codeAny_mono (code_set_led1 (.ref l) (E:=E) (Q₁:=fun v u => v = .ref D∧u = { s with heap:=s.heap.push (freshObj w) }) ⟨by rw [hD],rfl⟩) fun r u hr => ?_
 match r,hr with
 | .error e,hr => exact hr
 | .ok (.ret v),hr =>
  obtain ⟨rfl,rfl⟩:=hr
  have o1:(s.heap.push (freshObj w)).get? D = some (freshObj w):=by rw [← hD]; exact Heap.get?_push_size _ rfl
  have ty1:Shared.TypeIs { s with heap:=s.heap.push (freshObj w) } (.ref D) "set" := ⟨_,o1,rfl⟩
  have f_il:=F.called_set.init.lookup
  have f_ib:=F.called_set.init.bind (.ref D)
  repeat (any_goals (first | assumption | wp_step))
  refine codeAny_mono (codeAny_call_builtin (R:=wants (fun r s₂ => r = .none∧∃ h' tk L,s₂ = { s with heap:=h',toks:=tk }∧SetV w h' D L∧HadV items.toList items.toList.length L∧∀ b o,s.heap.get? b = some o→h'.get? b = some o) E) F.called_set.init.plain F.entry_set_init (check_set_init_1 ty1 ?_)) fun r2 s2 hr2 => ?_
  ·obtain ⟨⟨lc,ld,ldat,ls⟩,l1,l2,ln,l3⟩:=hl
   simp only at l2 l3
   subst l2; subst l3
   have l4:(s.heap.push (freshObj w)).get? l = some { cls:=.type "list",dict:=ld,data:=.seq items ln,slots:=ls }:=Heap.get?_push_of_some _ l1
   have isl:(s.heap.push (freshObj w)).IsList l items:=⟨_,l4,rfl,ln,rfl⟩
   have f_ls:=F.sub_list_set
   have f_lf:=F.sub_list_frozenset
   have f_ld:(Value.type "list" == Value.type "dict") = false:=by decide
   unfold Builtin.«set.__init__» noKeywords Builtin.Frozenset.updateFrom
   generalize hIt:pyIter = it
   wp_walk
   subst hIt
   refine wpAny_pyIter_list isl ?_
   refine wpAny_bind (wpAny_runValue ?_)
   have lD:l < D:=by rw [← hD]; exact Heap.lt_size l1
   have sz:(s.heap.push (freshObj w)).objs.size = D + 1:=by rw [← hD]; exact Heap.size_push ..
   have hin:A.in1.in1.in1.handled = none:=by simp [hh]
   refine put_all ((Walks.list hin (s.heap.push (freshObj w)).objs.size l (by rw [sz]; exact Nat.ne_of_lt (Nat.lt_succ_of_lt lD)) items).toS) D (by rw [sz]; intro z; rcases List.mem_cons.mp z with z | z; exact Nat.succ_ne_self D z.symm; exact Nat.ne_of_gt lD (List.mem_singleton.mp z)) items.toList len few at_ isk s.heap (out_ _ (Nat.le_refl _)) (fun b hb => out_ b (by rw [List.mem_singleton.mp hb,sz]; exact Nat.le_succ D)) (items.size - 0) 0 _ (by omega) (Nat.zero_le _) ?st (fun b o e => Heap.get?_push_of_some _ (Heap.get?_push_of_some _ e)) ?had ?fin
   case st => exact ⟨⟨_,Heap.get?_push_size _ rfl,rfl,rfl⟩,isl.push _⟩
   case had => exact ⟨[],SetV.new (Heap.get?_push_of_some _ o1),HadV.none _⟩
   case fin =>
    rintro ⟨h',g2,d2,tk,os2⟩ L mv B g k
    have e1:g2 = s.gens:=mv.gens
    have e2:d2 = s.drawn:=mv.drawn
    have e3:os2 = s.os:=mv.os
    subst e1; subst e2; subst e3
    rw [len] at g
    show wpAny _ _ _ _ _ _
    refine wpAny_pure ?_
    show wpAny _ _ (ret Value.none) _ _ _
    exact wpAny_pure ⟨rfl,h',tk,L,rfl,B,g,k⟩
  ·match r2,hr2 with
   | .error e,hr2 => exact hr2
   | .ok (.ret v),hr2 =>
    obtain ⟨rfl,h',tk,L,rfl,B,g,k⟩:=hr2
    repeat (any_goals (first | assumption | wp_step))
    exact fin _ _ _ B g k
theorem kLt_int (i j:Int):kLt [.inl i] [.inl j] = decide (i < j):=by
 show (decide (i < j) || (!decide (j < i) && false)) = _
 simp
theorem kLt_str (x y:Str):kLt [.inr x] [.inr y] = ltCps x.cps.toList y.cps.toList:=by
 show (strKind.blt x.cps.toList y.cps.toList || (!strKind.blt y.cps.toList x.cps.toList && false)) = _
 rw [ltCps_eq]
 simp
theorem kLt_negS {x y z:Str} (h:ltCps y.cps.toList x.cps.toList = false) (h':ltCps z.cps.toList y.cps.toList = false):ltCps z.cps.toList x.cps.toList = false:=by
 rw [← kLt_str] at h h' ⊢
 exact kLt_neg h h'
theorem asc_rising:∀ (p:Str) (l:List Str),risingS p l = true→(p :: l).Pairwise fun a b => ltCps b.cps.toList a.cps.toList = false
 | p,[],_ => by simp
 | p,x :: r,h => by
  have h':(!ltCps x.cps.toList p.cps.toList && risingS x r) = true:=h
  rw [Bool.and_eq_true,Bool.not_eq_true'] at h'
  have ih:=asc_rising x r h'.2
  refine List.pairwise_cons.mpr ⟨fun y hy => ?_,ih⟩
  rcases List.mem_cons.mp hy with z | z
  ·rw [z]; exact h'.1
  ·exact kLt_negS h'.1 ((List.pairwise_cons.mp ih).1 y z)
theorem asc_sortedS:∀ (l:List Str),sortedS l = true→l.Pairwise fun a b => ltCps b.cps.toList a.cps.toList = false
 | [],_ => List.Pairwise.nil
 | x :: r,h => asc_rising x r h
def Alike (b:Bool) (ks:List Key):Prop:=∀ k ∈ ks,k.isRight = b
def AscK (ks:List Key):Prop:=ks.Pairwise fun a b => kLt [b] [a] = false
theorem strs_alike {w:World}:∀ {vs:List Value},(∀ v ∈ vs,keyIs (kO v) v = true)→Alike true (vs.map kO)→∃ ss:List Str,StrsAre vs ss∧vs.map kO = ss.map Sum.inr
 | [],_,_ => ⟨[],.nil,rfl⟩
 | v :: vs,hk,ha => by
  obtain ⟨ss,h1,h2⟩:=strs_alike (w:=w) (vs:=vs) (fun u hu => hk u (by simp [hu])) fun k hk => ha k (by simp at hk ⊢; exact .inr hk)
  have h3:=hk v (by simp)
  have h4:=ha (kO v) (by simp)
  rcases keyIs_shape h3 with ⟨i,t,e,rfl⟩ | ⟨x,t,e,rfl⟩
  ·cases h4
  ·exact ⟨x :: ss,.cons _ _ h1,by rw [List.map_cons,List.map_cons,h2]; rfl⟩
theorem ints_alike {w:World}:∀ {vs:List Value},(∀ v ∈ vs,keyIs (kO v) v = true)→Alike false (vs.map kO)→∃ ns:List Int,IntsAre vs ns∧vs.map kO = ns.map Sum.inl
 | [],_,_ => ⟨[],.nil,rfl⟩
 | v :: vs,hk,ha => by
  obtain ⟨ss,h1,h2⟩:=ints_alike (w:=w) (vs:=vs) (fun u hu => hk u (by simp [hu])) fun k hk => ha k (by simp at hk ⊢; exact .inr hk)
  have h3:=hk v (by simp)
  have h4:=ha (kO v) (by simp)
  rcases keyIs_shape h3 with ⟨i,t,e,rfl⟩ | ⟨x,t,e,rfl⟩
  ·exact ⟨i :: ss,.cons _ _ h1,by rw [List.map_cons,List.map_cons,h2]; rfl⟩
  ·cases h4
theorem ints_kO:∀ {vs:List Value} {ns:List Int},IntsAre vs ns→vs.map kO = ns.map Sum.inl∧∀ v ∈ vs,keyIs (kO v) v = true
 | _,_,.nil => ⟨rfl,by simp⟩
 | _,_,.cons n t h => by
  obtain ⟨h1,h2⟩:=ints_kO h
  refine ⟨by rw [List.map_cons,List.map_cons,h1]; rfl,fun v hv => ?_⟩
  rcases List.mem_cons.mp hv with rfl | z
  ·exact keyIs_int n t
  ·exact h2 v z
theorem strs_kO:∀ {vs:List Value} {ns:List Str},StrsAre vs ns→vs.map kO = ns.map Sum.inr∧∀ v ∈ vs,keyIs (kO v) v = true
 | _,_,.nil => ⟨rfl,by simp⟩
 | _,_,.cons n t h => by
  obtain ⟨h1,h2⟩:=strs_kO h
  refine ⟨by rw [List.map_cons,List.map_cons,h1]; rfl,fun v hv => ?_⟩
  rcases List.mem_cons.mp hv with rfl | z
  ·exact keyIs_str n t
  ·exact h2 v z
theorem ascK_ints {ns:List Int} (h:ns.Pairwise (· ≤ ·)):AscK (ns.map Sum.inl):=by
 refine List.pairwise_map.mpr (h.imp fun {a b} q => ?_)
 rw [kLt_int]; simpa using q
theorem ascK_strs {ss:List Str} (h:sortedS ss = true):AscK (ss.map Sum.inr):=by
 refine List.pairwise_map.mpr ((asc_sortedS ss h).imp fun {a b} q => ?_)
 rw [kLt_str]; exact q
theorem list_sortV {a:Addr} {vs:List Value} {n:Nat} {b:Bool} {P':Fin→Shared→Prop} (ho:s.heap.get? a = some (seqObj "list" vs.toArray n)) (hk:∀ v ∈ vs,keyIs (kO v) v = true) (ha:Alike b (vs.map kO)) (hL:vs.length ≤ sizeLine)
  (h:∀ (out:Array Value),(∀ v ∈ out.toList,keyIs (kO v) v = true)→(out.toList.map kO).Perm (vs.map kO)→AscK (out.toList.map kO)→P' (.done (.ret .none)) { s with heap:=sortedHeap s.heap a vs out }):wpAny (model P w) A (Builtin.«list.sort» ⟨[.ref a],[]⟩) P' E s:=by
 cases b with
 | false =>
  obtain ⟨ns,h1,h2⟩:=ints_alike (w:=w) hk ha
  refine list_sort_treeAny ho h1 hL fun out ns' q1 q2 q3 => ?_
  obtain ⟨e1,e2⟩:=ints_kO q1
  exact h out e2 (by rw [e1,h2]; exact q2.map _) (by rw [e1]; exact ascK_ints q3)
 | true =>
  obtain ⟨ss,h1,h2⟩:=strs_alike (w:=w) hk ha
  refine list_sort_treeKAny strKind_oneLt ho h1.keysOf (fun v₁ v₂ rest e => keyKind_strs (by rw [← e]; exact h1)) hL fun st' hp hs => ?_
  obtain ⟨ss',q1,q2,q3⟩:=sorted_out_str h1 hp hs
  obtain ⟨e1,e2⟩:=strs_kO q1
  exact h _ e2 (by rw [e1,h2]; exact q2.map _) (by rw [e1]; exact ascK_strs q3)
theorem sorted_setV {a:Addr} {L:List Key} {b:Bool} {Q:Value→Shared→Prop} (B:SetV w s.heap a L) (hh:A.handled = none) (ha:Alike b L)
  (fin:∀ (s':Shared) (d:Addr) (out:Array Value) (c:Nat),(∀ b o,s.heap.get? b = some o→s'.heap.get? b = some o)→s'.gens = s.gens→s'.os = s.os→s.heap.objs.size ≤ d →
   s'.heap.get? d = some (seqObj "list" out c)→(∀ v ∈ out.toList,keyIs (kO v) v = true)→(out.toList.map kO).Perm L→AscK (out.toList.map kO)→Q (.ref d) s') :
  wpAny (model P w) A (call (.builtin "sorted") [.ref a]) Q E s:=by
 obtain ⟨o,es,ep,t,ho,hex,hd,ge,pmL,nd,few,fit,ris,led⟩:=B
 have szl:es.size ≤ sizeLine:=fits_of_scanBound few
 refine Calls.call_function_entry kind_sorted plain_sorted entry_sorted (args_sorted1 _) ?_
 unfold Builtin.«sorted»
 refine wpAny_bind (m:=checkCount "sorted" 1 1 _) (wpAny_pure ?_)
 refine wpAny_bind (collect_set (A:=A.in1) hh ⟨o,ho,hex.1,hd⟩ fit few ris led fun s1 vs k1 hz g1 o1 pm => ?_)
 have len:vs.length = es.size:=by rw [pm.length_eq,List.length_map,Array.length_toList]
 have vk:∀ v ∈ vs,keyIs (kO v) v = true:=fun v hv => by
  obtain ⟨e,he,q⟩:=List.mem_map.mp (pm.mem_iff.mp hv)
  rw [← q]; exact (ge e he).1
 have pk:(vs.map kO).Perm L:=by
  have:=pm.map kO
  rw [List.map_map] at this
  exact this.trans pmL
 refine wpAny_bind (wpAny_newList ?_ (by rw [len]; exact szl))
 have oL:(s1.heap.push (seqObj "list" vs.toArray 0)).get? s1.heap.objs.size = some (seqObj "list" vs.toArray 0):=Heap.get?_push_size _ rfl
 refine wpAny_bind (wpAny_holding (wpAny_call_entry slot_list_sort ⟨_,oL,rfl⟩ entry_list_sort (list_sortV (s:={ s1 with heap:=s1.heap.push (seqObj "list" vs.toArray 0) }) oL vk (b:=b) (fun k hk => ha k (pk.mem_iff.mp hk)) (by rw [len]; exact szl) fun out c1 c2 c3 => ⟨_,rfl,?_⟩) (args_list_sort _)))
 obtain ⟨c,hc2⟩:=sortedHeap_at (vs:=vs) (out:=out) oL
 refine wpAny_pure ⟨_,rfl,fin _ s1.heap.objs.size out c (fun b u e => ?_) g1 o1 hz hc2 c1 (c2.trans pk) c3⟩
 have q:=k1 b u e
 show (sortedHeap (s1.heap.push (seqObj "list" vs.toArray 0)) s1.heap.objs.size vs out).get? b = some u
 rw [sortedHeap_old (Nat.ne_of_lt (Heap.lt_size q)) (by rw [size_push']; exact Nat.lt_succ_of_lt (Heap.lt_size q))]
 exact Heap.get?_push_of_some _ q
def SetVO (w:World) (a:Addr) (L:List Key):HO:=.ext fun h => SetV w h a L
theorem setVO_new {H:Hp} {h:Heap} {a:Addr} {L:List Key} (B:SetV w h a L):ObjOk P w H h a (SetVO w a L):=by
 obtain ⟨o,es,ep,t,ho,r⟩:=id B
 exact ⟨B,⟨o,ho⟩,fun h1 h2 B' k => SetV.up B' k⟩
end
theorem vals_keys:∀ {ks:List Key} {us:List Value},Vals (ks.map kV) us→us.map kO = ks∧∀ u ∈ us,keyIs (kO u) u = true
 | [],_,.nil => ⟨rfl,by simp⟩
 | .inl i :: ks,_,.cons r t => by
  obtain ⟨tk,rfl⟩:=r
  obtain ⟨h1,h2⟩:=vals_keys t
  refine ⟨by rw [List.map_cons,h1]; rfl,fun u hu => ?_⟩
  rcases List.mem_cons.mp hu with rfl | z
  ·exact keyIs_int i tk
  ·exact h2 u z
 | .inr x :: ks,_,.cons r t => by
  obtain ⟨tk,rfl⟩:=r
  obtain ⟨h1,h2⟩:=vals_keys t
  refine ⟨by rw [List.map_cons,h1]; rfl,fun u hu => ?_⟩
  rcases List.mem_cons.mp hu with rfl | z
  ·exact keyIs_str x tk
  ·exact h2 u z
theorem keys_vals:∀ {us:List Value},(∀ u ∈ us,keyIs (kO u) u = true)→Vals ((us.map kO).map kV) us
 | [],_ => .nil
 | u :: us,h => by
  have h1:=h u (by simp)
  have h2:=keys_vals (us:=us) fun v hv => h v (by simp [hv])
  rcases keyIs_shape h1 with ⟨i,t,e,rfl⟩ | ⟨x,t,e,rfl⟩
  ·exact .cons ⟨t,rfl⟩ h2
  ·exact .cons ⟨t,rfl⟩ h2
section
variable {X:Cx}
def rSetVK (K:PySem.W.Frag) (w:World):List V→Hp→VK→Prop:=fun xs H Q => ∃ (l:Addr) (ks:List Key),xs = [V.ref l]∧SqL K H l (ks.map kV)∧ks.length ≤ 4000 ∧
 ∀ a L,H a = none→(∀ k,k ∈ L↔k ∈ ks)→L.Nodup→Q (.ref a) (upd H a (SetVO w a L))
theorem cr_setVK (hc:X.calm = true):CallR X (.type "set") (rSetVK X.K X.w):=by
 intro pins s σ H xs us Q I r h
 obtain ⟨l,ks,rfl,hl,hf,q⟩:=h
 rw [Vals.ref1 r]
 obtain ⟨its,rv,pl,hz⟩:=I.list hl
 obtain ⟨k1,k2⟩:=vals_keys rv
 have hlen:its.length = ks.length:=by rw [← k1,List.length_map]
 refine setV_of_list (I.ok.hd hc) pl.isList (by simpa using k2) (by simpa [hlen] using hf) fun h' tk L B g k => ?_
 have nd:L.Nodup:=B.choose_spec.choose_spec.choose_spec.choose_spec.2.2.2.2.2.1
 refine ⟨.ref s.heap.objs.size,upd H s.heap.objs.size (SetVO X.w s.heap.objs.size L),I.laid (t':=tk) k (Nat.le_refl _) (setVO_new B),rfl,q _ L (I.hok.fresh (Nat.le_refl _)) (fun k => ⟨fun hk => ?_,fun hk => ?_⟩) nd⟩
 ·obtain ⟨v,hv,rfl⟩:=g.of k hk
  rw [← k1]
  exact List.mem_map.mpr ⟨v,by simpa using List.mem_of_mem_take hv,rfl⟩
 ·rw [← k1] at hk
  obtain ⟨v,hv,rfl⟩:=List.mem_map.mp hk
  exact g.to v (by rw [List.take_length]; simpa using hv)
def rSortedVK (w:World):List V→Hp→VK→Prop:=fun vs H Q => ∃ (a:Addr) (L:List Key) (b:Bool),vs = [V.ref a]∧H a = some (SetVO w a L)∧Alike b L ∧
 ∀ (L':List Key) (p:Addr),L'.Perm L→AscK L'→H p = none→Q (.ref p) (upd H p (.lst (L'.map kV)))
theorem cr_sortedVK (hc:X.calm = true):CallR X (.builtin "sorted") (rSortedVK X.w):=by
 intro pins s σ H vs us Q I r h
 obtain ⟨a,L,b,rfl,ha,hb,q⟩:=h
 have B:SetV X.w s.heap a L:=(I.hok a _ ha).1
 have fewL:L.length < scanBound:=by
  obtain ⟨o,es,ep,t,_,_,_,_,pm,_,few,_⟩:=B
  rw [← SetV.size pm]; exact few
 rw [Vals.ref1 r]
 refine sorted_setV B (I.ok.hd hc) hb fun s' p out c k g o hp hg hk pm asc => ?_
 have hlen:((out.toList.map kO).map kV).length ≤ sizeLine:=by rw [List.length_map,pm.length_eq]; exact fits_of_scanBound fewL
 have hn:H p = none:=I.hok.fresh hp
 have J:Inv X pins σ (upd H p (.lst ((out.toList.map kO).map kV))) { s with heap:=s'.heap,gens:=s'.gens,drawn:=s'.drawn,toks:=s'.toks } :=
  I.call (ch:=[]) (Un.laid k hp hn) (I.hok.laid k hp ⟨hlen,out.toList,c,keys_vals hk,hg⟩) (by rw [g]; exact I.bare) (fun _ z => nomatch z)
 have e:s' = { s with heap:=s'.heap,gens:=s'.gens,drawn:=s'.drawn,toks:=s'.toks }:=by
  cases s'; cases s; cases o; rfl
 rw [e]
 exact ⟨.ref p,_,J,rfl,q _ p pm asc hn⟩
end
end PLs
namespace PL
open PySem PySem.Spec PyProof.Rows L2 PLs
noncomputable def sortK (ks:List Key):List Key:=(sortT (dedupT (ks.map fun k => [k]))).flatten
theorem flat_one:∀ l:List Key,(l.map fun k => [k]).flatten = l
 | [] => rfl
 | k :: l => by simp [flat_one l]
theorem sortK_uniq {a ks:List Key} (ha:AscK a) (nd:a.Nodup) (h:∀ x,x ∈ a↔x ∈ ks):a = sortK ks:=by
 have:(a.map fun k => [k]) = sortT (dedupT (ks.map fun k => [k])):=set_uniq (List.pairwise_map.mpr ha) (List.pairwise_map.mpr (nd.imp fun h e => h (List.cons.inj e).1)) fun x => by
  simp only [List.mem_map]
  exact ⟨fun ⟨k,hk,e⟩ => ⟨k,(h k).mp hk,e⟩,fun ⟨k,hk,e⟩ => ⟨k,(h k).mpr hk,e⟩⟩
 unfold sortK
 rw [← this,flat_one]
theorem sortK_sing (ks:List Key):∀ x ∈ sortT (dedupT (ks.map fun k => [k])),∃ k ∈ ks,x = [k]:=fun x hx => by
 obtain ⟨k,hk,e⟩:=List.mem_map.mp (mem_sortset.mp hx)
 exact ⟨k,hk,e.symm⟩
theorem mem_sortK {x:Key} {ks:List Key}:x ∈ sortK ks↔x ∈ ks:=by
 unfold sortK
 rw [List.mem_flatten]
 constructor
 ·rintro ⟨l,hl,hx⟩
  obtain ⟨k,hk,rfl⟩:=sortK_sing ks l hl
  rw [List.mem_singleton.mp hx]; exact hk
 ·exact fun hx => ⟨[x],mem_sortset.mpr (List.mem_map.mpr ⟨x,hx,rfl⟩),by simp⟩
theorem flat_sing {l:List TK} (h:∀ x ∈ l,∃ k:Key,x = [k]):l = l.flatten.map fun k => [k]:=by
 induction l with
 | nil => rfl
 | cons x l ih =>
  obtain ⟨k,rfl⟩:=h x (by simp)
  have:=ih fun y hy => h y (by simp [hy])
  simp only [List.flatten_cons,List.singleton_append,List.map_cons]
  rw [← this]
theorem nodup_sortK (ks:List Key):(sortK ks).Nodup:=by
 have h:=nodup_sortset (ks.map fun k => [k])
 rw [flat_sing (l:=sortT (dedupT (ks.map fun k => [k]))) (fun x hx => by obtain ⟨k,_,e⟩:=sortK_sing ks x hx; exact ⟨k,e⟩)] at h
 exact List.Pairwise.of_map _ (fun _ _ ne e => ne (by rw [e])) h
open Classical in
noncomputable def sortKeyO:PV→Sto→Out PV:=fun p S => match p with
 | .loc l => (match S[l]? with
  | some (.lst xs) => (match keysP xs with
   | some ks => if ks.length ≤ 4000∧∃ b,Alike b ks then .ok (.loc S.length) (S ++ [.lst ((sortK ks).map kP)]) else .bad
   | none => .bad)
  | _ => .bad)
 | _ => .bad
noncomputable def sortKeyM (m:EM PV):EM PV:=fun τ S => bnd (m τ S) sortKeyO
section
variable {X:Cx} {W:WX} {a:Expr} {ma:EM PV} {p p2 q pos:Pos}
theorem re_sortKey (hc:X.calm = true) (hg:Gl X "sorted") (hm:X.mg "sorted" = none) (hg2:Gl X "set") (hm2:X.mg "set" = none) (ha:RE X W a ma)
  (na:starEach [a] X.env = (false,eval a X.env) :: starEach [] X.env:=by rfl)
  (nb:starEach [.Call (.Name "set" p2) [a] [] q] X.env = (false,eval (.Call (.Name "set" p2) [a] [] q) X.env) :: starEach [] X.env:=by rfl):RE X W (.Call (.Name "sorted" p) [.Call (.Name "set" p2) [a] [] q] [] pos) (sortKeyM ma):=by
 refine ⟨pe_weak (pe_callB (cr_sortedVK hc) hg hm (by decide +kernel) (pa_cons (pe_callTy (cr_setVK hc) hg2 hm2 (by decide +kernel) (pa_cons ha.pe pa_nil na) (he:=na)) pa_nil nb) (he:=nb)) fun σ H Q ⟨ι,τ,S,r,ρ,pk⟩ => ⟨ι,τ,S,r,ρ,pk.next.mono fun x H1 ⟨v,ι1,S1,e1,r1,q1,pk1⟩ => ?_⟩⟩
 unfold sortKeyO at pk1
 split at pk1
 ·rename_i l
  split at pk1
  ·rename_i xs hl
   split at pk1
   ·rename_i ks hks
    split at pk1
    ·rename_i ok
     obtain ⟨few,b,hb⟩:=ok
     obtain ⟨ad,rfl,hι⟩:=q1
     obtain ⟨vs,hv,rl⟩:=r1.obj l ad _ hι hl
     rw [keysP_eq hks] at rl
     have e4:=rpl_kP rl
     subst e4
     refine ⟨ad,ks,rfl,.of hv,few,fun sa L hsa hL nd => ?_⟩
     obtain ⟨E2,r2⟩:=r1.tup (ho:=SetVO X.w sa L) hsa
     refine ⟨sa,L,b,rfl,upd_same,fun k hk => hb k ((hL k).mp hk),fun L' pa pm asc hpa => ?_⟩
     obtain ⟨E3,r3,q3⟩:=r2.new_lst hpa (rpl_of_kV L')
     have e5:L' = sortK ks:=sortK_uniq asc (pm.nodup_iff.mpr nd) fun x => by rw [pm.mem_iff,hL]
     subst e5
     exact pk1 _ _ _ (E2.trans E3) r3 q3
    ·exact pk1.elim
   ·exact pk1.elim
  ·exact pk1.elim
 ·exact pk1.elim
end
section
variable {P:PV→Sto→Prop} {R:Str→PV→Sto→Prop} {S:Sto} {l:Nat} {ks:List Key}
@[simp] theorem e_sortKeyM (m:EM PV) (τ : En):sortKeyM m τ S = bnd (m τ S) sortKeyO:=rfl
theorem sortKey_wp (h:S[l]? = some (.lst (ks.map kP))) (few:ks.length ≤ 4000) {b:Bool} (ok:Alike b ks) (k:∀ n S',S'[n]? = some (.lst ((sortK ks).map kP))→Keep [] S S'→S.length ≤ n→P (.loc n) S'):wp (sortKeyO (.loc l) S) P R:=by
 have:∃ b,Alike b ks:=⟨b,ok⟩
 simp only [sortKeyO,h,keysP_kP,few,this,and_self,if_true,wp_ok]
 exact alloc_wp k
end
end PL
set_option maxHeartbeats 4000000
namespace PLs
open PySem PySem.Spec PyProof.Rows PySem.W L2
section
variable {P:Program} {w:World} {A:Around} {E:Value→Shared→Prop} {s:Shared}
end
section
variable {X:Cx}
end
end PLs
namespace PL
open PySem PySem.Spec PyProof.Rows L2 PLs
section
variable {X:Cx} {W:WX} {a:Expr} {ma:EM PV} {p p2 q pos:Pos}
end
section
variable {P:PV→Sto→Prop} {R:Str→PV→Sto→Prop} {S:Sto} {ks:List Key}
end
end PL
set_option maxHeartbeats 4000000
namespace PL
open PySem PySem.Spec PyProof.Rows L2
section
variable {X:Cx}
end
end PL
namespace PL
open PySem PySem.Spec PyProof.Rows L2
section
variable {X:Cx} {W:WX} {a:Expr} {ma:EM PV} {p q r pos:Pos}
end
end PL
namespace PL
open PySem PySem.Spec PyProof.Rows L2
section
variable {X:Cx} {W:WX}
def strTP (p:PV) (S:Sto):Option (PV × Sto):=match p with | .int i => if i.natAbs.log2 < 1920 then some (.str (toString i),S) else none | _ => none
theorem cr_strT:CallR X (.type "str") (gCall X (on1 strTP)):=cr_on1 fun pins s σ H us Q ι S p x v S' I r rs rp hf k => by
 unfold strTP at hf
 split at hf
 ·split at hf
  ·rename_i hz
   cases hf; cases (show x = _ from rp)
   exact call_str_int pins s σ H _ us Q I r ⟨_,rfl,hz,k _ _ _ .refl rs rfl⟩
  ·cases hf
 ·cases hf
def intTP (p:PV) (S:Sto):Option (PV × Sto):=match p with | .str a => (match PySem.intText? a with | some n => if a.length ≤ 640 then some (.int n,S) else none | none => none) | _ => none
theorem cr_intT:CallR X (.type "int") (gCall X (on1 intTP)):=cr_on1 fun pins s σ H us Q ι S p x v S' I r rs rp hf k => by
 unfold intTP at hf
 split at hf
 ·split at hf
  ·rename_i n hn
   split at hf
   ·rename_i hz
    cases hf; cases (show x = _ from rp)
    exact call_int_str pins s σ H _ us Q I r ⟨_,_,rfl,hn,hz,k _ _ _ .refl rs rfl⟩
   ·cases hf
  ·cases hf
 ·cases hf
def fmtO:PV→Sto→Out PV:=fun p S => match p with
 | .str y => if y.length ≤ 16777216 then .ok (.str y) S else .bad
 | .int i => if i.natAbs.log2 < 1920 then .ok (.str (toString i)) S else .bad
 | _ => .bad
def fmtM (m:EM PV):EM PV:=fun τ S => bnd (m τ S) fmtO
theorem re_fmt {e:Expr} {m:EM PV} {pos:Pos} (he:RE X W e m):RE X W (.FormattedValue e (-1) none pos) (fmtM m):=by
 refine ⟨pe_weak (pe_fmt he.pe) fun σ H Q ⟨ι,τ,S,r,ρ,pk⟩ => ⟨ι,τ,S,r,ρ,pk.next.mono fun x H1 ⟨p,ι1,S1,e1,r1,q1,pk1⟩ => ?_⟩⟩
 unfold fmtO at pk1
 split at pk1
 ·split at pk1
  ·rename_i hz
   cases (show x = _ from q1)
   exact .inl ⟨_,rfl,by rw [sizeLine_eq]; exact hz,pk1 ι1 H1 _ .refl r1 rfl⟩
  ·exact pk1.elim
 ·split at pk1
  ·rename_i hz
   cases (show x = _ from q1)
   exact .inr ⟨_,rfl,hz,pk1 ι1 H1 _ .refl r1 rfl⟩
  ·exact pk1.elim
 ·exact pk1.elim
def fsO (k:Str→Sto→Out PV) (acc:Str):PV→Sto→Out PV:=fun p S => match p with
 | .str y => if (acc ++ y).length ≤ 16777216 then k (acc ++ y) S else .bad
 | _ => .bad
def fsA (τ : En):List (EM PV)→Str→Sto→Out PV
 | [],acc,S => .ok (.str acc) S
 | m :: ms,acc,S => bnd (m τ S) (fsO (fsA τ ms) acc)
def fsM (ms:List (EM PV)):EM PV:=fun τ S => fsA τ ms Str.empty S
inductive RJ (X:Cx) (W:WX):List Expr→List (EM PV)→Prop where
 | nil:RJ X W [] []
 | cons {e:Expr} {m:EM PV} {es:List Expr} {ms:List (EM PV)} (h:RE X W e m) (r:RJ X W es ms):RJ X W (e :: es) (m :: ms)
theorem rj_pj {es:List Expr} {ms:List (EM PV)} (h:RJ X W es ms):PJ X es (ms.map fun m => gE X W (rV X) m):=by
 induction h with
 | nil => exact .nil
 | cons h r ih => exact .cons h.pe ih
theorem fs_run {σ : L2.St} {Q:VK}:∀ (ms:List (EM PV)) (acc:Str) (ι : List Addr) (τ : En) (S:Sto) (H:Hp),RSt X.prog X.w X.K X.mg ι H S→REn X.K ι H τ σ→Pk X W (rV X) σ Q ι H (fsA τ ms acc S) →
  tJs (ms.map fun m => gE X W (rV X) m) acc σ H fun out H1 => Q (.str out) H1
 | [],acc,ι,τ,S,H,r,ρ,pk => pk ι H _ .refl r rfl
 | m :: ms,acc,ι,τ,S,H,r,ρ,pk => by
  show gE X W (rV X) m σ H _
  refine ⟨ι,τ,S,r,ρ,Pk.mono (Pk.next pk) fun x H1 ⟨p,ι1,S1,e1,r1,q1,pk1⟩ => ?_⟩
  unfold fsO at pk1
  split at pk1
  ·split at pk1
   ·rename_i hz
    cases (show x = _ from q1)
    exact ⟨_,rfl,by rw [sizeLine_eq]; exact hz,fs_run ms _ ι1 τ S1 H1 r1 (ρ.up e1) pk1⟩
   ·exact pk1.elim
  ·exact pk1.elim
theorem re_fs {v1 v2:Expr} {rest:List Expr} {ms:List (EM PV)} {pos:Pos} (h:RJ X W (v1 :: v2 :: rest) ms):RE X W (.JoinedStr (v1 :: v2 :: rest) pos) (fsM ms) :=
 ⟨pe_weak (pe_joined (rj_pj h)) fun σ H Q ⟨ι,τ,S,r,ρ,pk⟩ => fs_run ms Str.empty ι τ S H r ρ pk⟩
end
@[simp] theorem strTP_int (i:Int) (S:Sto):strTP (.int i) S = if i.natAbs.log2 < 1920 then some (.str (toString i),S) else none:=rfl
@[simp] theorem intTP_str (a:Str) (S:Sto):intTP (.str a) S = match PySem.intText? a with | some n => if a.length ≤ 640 then some (.int n,S) else none | none => none:=rfl
@[simp] theorem e_fmtM (m:EM PV) (τ : En) (S:Sto):fmtM m τ S = bnd (m τ S) fmtO:=rfl
@[simp] theorem fmtO_str (y:Str) (S:Sto):fmtO (.str y) S = if y.length ≤ 16777216 then .ok (.str y) S else .bad:=rfl
@[simp] theorem fmtO_int (i:Int) (S:Sto):fmtO (.int i) S = if i.natAbs.log2 < 1920 then .ok (.str (toString i)) S else .bad:=rfl
@[simp] theorem e_fsM (ms:List (EM PV)) (τ : En) (S:Sto):fsM ms τ S = fsA τ ms Str.empty S:=rfl
@[simp] theorem fsA_nil (τ : En) (acc:Str) (S:Sto):fsA τ [] acc S = .ok (.str acc) S:=rfl
@[simp] theorem fsA_cons (τ : En) (m:EM PV) (ms:List (EM PV)) (acc:Str) (S:Sto):fsA τ (m :: ms) acc S = bnd (m τ S) (fsO (fsA τ ms) acc):=rfl
@[simp] theorem fsO_str (k:Str→Sto→Out PV) (acc y:Str) (S:Sto):fsO k acc (.str y) S = if (acc ++ y).length ≤ 16777216 then k (acc ++ y) S else .bad:=rfl
structure KTp (K:PySem.W.Frag) (mg:Str→Option Value) (N:Str) (xs:List Str):Prop where
 ex:∃ (a:Addr) (its:Array Value) (n:Nat) (sl:Array (Option Value)),mg N = some (.ref a)∧K.lookup a = some ⟨.type "tuple",none,.seq its n,sl⟩∧Vals (xs.map V.str) its.toList∧xs.length ≤ 1000
theorem rpl_strs {K:PySem.W.Frag} {ι : List Addr} {H:Hp}:∀ xs:List Str,RpL K ι H (xs.map PV.str) (xs.map V.str)
 | [] => rfl
 | x :: xs => ⟨_,_,rfl,rfl,rpl_strs xs⟩
theorem re_globT {X:Cx} {W:WX} {pos:Pos} {N:Str} {xs:List Str} (k:KTp X.K X.mg N xs) (hg:Gl X N) (hd:(N == ("__debug__" : Str)) = false:=by decide):RE X W (.Name N pos) (cV (.tup (xs.map PV.str))):=by
 obtain ⟨a,its,n,sl,h1,h2,h3,h4⟩:=k.ex
 refine re_glob (w:=.ref a) hg h1 rfl (fun ι H => ⟨a,xs.map V.str,rfl,.inr ⟨_,its,n,h2,rfl,rfl,rfl,?_,h3⟩,rpl_strs xs⟩) hd
 have hl:=h3.length
 simp only [List.length_map] at hl
 have hl2:its.toList.length = its.size:=by simp
 rw [sizeLine_eq]; omega
end PL
set_option maxHeartbeats 4000000
namespace PL
open PySem PySem.Spec PyProof.Rows L2
section
variable {X:Cx} {W:WX} {e:Expr} {me:EM PV} {p3 p4 pos:Pos} {j2:Nat}
end
end PL
namespace PLa
open PySem PySem.Spec PyProof.Rows
section
variable {P:Program} {w:World} {κ : Type} [DecidableEq κ] {knd:HeapKind P w κ} {A:Around} {E:Value→Shared→Prop} {s:Shared} {d a:Addr} {k : κ} {v:Value} {xs:List (κ × Addr × Value)}
structure AgeAt (knd:HeapKind P w κ) (h:Heap) (d:Addr) (xs:List (κ × Addr × Value)):Prop where
 ob:∃ o es,h.get? d = some o∧o.ExactDict∧o.data = .dict es xs.length∧es.toList = xs.map (entryOfKey knd)
 ks:∀ x ∈ xs,knd.is h x.1 x.2.1
 nd:(xs.map (·.1)).Nodup
theorem AgeAt.dict {h:Heap} (g:AgeAt knd h d xs):h.DictOfH knd d xs:=by
 obtain ⟨o,es,h1,h2,h3,h4⟩:=g.ob
 exact ⟨o,es,_,h1,h2,h3,h4,g.ks,g.nd⟩
theorem storedH_ks {h h':Heap} (hk:∀ x ∈ xs,knd.is h x.1 x.2.1) (ha:knd.is h k a) (kp:∀ {y b},knd.is h y b→knd.is h' y b):∀ x ∈ storedH xs k a v,knd.is h' x.1 x.2.1:=by
 intro x hx
 rcases mem_storedH hx with ⟨y,hy,e1,e2⟩ | ⟨e1,e2⟩
 ·rw [e1,e2]; exact kp (hk y hy)
 ·rw [e1,e2]; exact kp ha
theorem AgeAt.new {h:Heap} (g:AgeAt knd h d xs) (ha:knd.is h k a) (hn:atKey xs k = none):AgeAt knd (h.update d (Obj.mapDictKeys fun es => es.push ⟨knd.hash k,.ref a,v⟩)) d (storedH xs k a v):=by
 obtain ⟨o,es,h1,h2,h3,h4⟩:=g.ob
 refine ⟨⟨_,es.push ⟨knd.hash k,.ref a,v⟩,Heap.get?_update_self _ h1 (Obj.isFreed_of_dict (Obj.data_mapDictKeys h3 _)),h2.mapDictKeys _,?_,?_⟩,storedH_ks g.ks ha fun q => knd.keeps q h1 h3 (Heap.SameBut.update ..),?_⟩
 ·rw [storedH_new hn,List.length_append]
  exact Obj.data_mapDictKeys h3 _
 ·rw [storedH_new hn,Array.toList_push,h4,List.map_append]; rfl
 ·rw [storedH_new hn,List.map_append,List.map_cons,List.map_nil]
  refine List.nodup_append.mpr ⟨g.nd,by simp,fun x hx y hy => ?_⟩
  have e:y = k:=by simpa using hy
  subst e
  intro e
  subst e
  obtain ⟨z,z1,z2⟩:=List.mem_map.mp hx
  have q:=List.find?_eq_none.mp (Option.map_eq_none_iff.mp hn) z z1
  simp [z2] at q
theorem AgeAt.old {h:Heap} {j:Nat} {p:Addr × Value} (g:AgeAt knd h d xs) (ha:knd.is h k a) (hj:xs[j]? = some (k,p)):AgeAt knd (h.update d (Obj.mapDict fun es => es.modify j fun e => { e with val:=v })) d (storedH xs k a v):=by
 obtain ⟨o,es,h1,h2,h3,h4⟩:=g.ob
 have hs:storedH xs k a v = xs.map (putAt k v):=storedH_old (atKey_of_get g.nd hj) a v
 refine ⟨⟨_,es.modify j fun e => { e with val:=v },Heap.get?_update_self _ h1 (Obj.isFreed_of_dict (Obj.data_mapDict h3 _)),h2.mapDict _,?_,?_⟩,storedH_ks g.ks ha fun q => knd.keeps q h1 h3 (Heap.SameBut.update ..),?_⟩
 ·rw [hs,List.length_map]
  exact Obj.data_mapDict h3 _
 ·have q:=modify_map_putAt (entryOfKey knd) (fun e:DictEntry => { e with val:=v }) k v (fun _ _ => rfl) g.nd hj
  rw [hs,← q,← h4,Array.toList_modify]
 ·rw [hs,keys_map_putAt]; exact g.nd
theorem AgeAt.empty (h:Heap):AgeAt knd (h.push { cls:=.type "dict",data:=.dict #[] }) h.objs.size [] :=
 ⟨⟨_,#[],Heap.get?_push_size _ rfl,⟨rfl,rfl,rfl⟩,rfl,rfl⟩,(fun x hx => nomatch hx),List.nodup_nil⟩
end
end PLa
namespace PL
open PySem PySem.Spec PyProof.Rows L2 PLa
abbrev LK:=List Leaf
section
variable {K:PySem.W.Frag} {ι : List Addr} {H:Hp}
end
section
variable {P:Program} {w:World}
end
abbrev EKr:List (LK × Addr × V)→List (LK × Addr × Value)→Prop:=Paired fun p q => p.1 = q.1∧p.2.1 = q.2.1∧RelV p.2.2 q.2.2
def stripX (xs:List (LK × Addr × V)):List (LK × V):=xs.map fun x => (x.1,x.2.2)
def putX (xs:List (LK × Addr × V)) (k:LK) (b:Addr) (v:V):List (LK × Addr × V) :=
 if ((stripX xs).any fun x => decide (x.1 = k)) = true then xs.map (fun x => if x.1 = k then (x.1,x.2.1,v) else x) else xs ++ [(k,b,v)]
theorem EKr.val {xs:List (LK × Addr × V)} {vs:List (LK × Addr × Value)} (r:EKr xs vs) (k:LK):RelO (valV (stripX xs) k) ((atKey vs k).map (·.2)):=by
 unfold EKr at r
 induction r with
 | nil => exact True.intro
 | @cons p q ps qs h t ih =>
  obtain ⟨h1,_,h2⟩:=h
  by_cases e:p.1 = k
  ·have e':q.1 = k:=h1.symm.trans e
   have b:atKey (q :: qs) k = some q.2:=by simp [atKey,List.find?_cons,e']
   rw [show stripX (p :: ps) = (p.1,p.2.2) :: stripX ps from rfl,valV_pos (p:=(p.1,p.2.2)) e,b]; exact h2
  ·have e':¬ q.1 = k:=fun z => e (h1.trans z)
   have b:atKey (q :: qs) k = atKey qs k:=by simp [atKey,List.find?_cons,e']
   rw [show stripX (p :: ps) = (p.1,p.2.2) :: stripX ps from rfl,valV_neg (p:=(p.1,p.2.2)) e,b]; exact ih
theorem EKr.repl {xs:List (LK × Addr × V)} {vs:List (LK × Addr × Value)} (r:EKr xs vs) (k:LK) {y:V} {u:Value} (ry:RelV y u) :
  EKr (xs.map (fun x => if x.1 = k then (x.1,x.2.1,y) else x)) (vs.map (putAt k u)):=by
 unfold EKr at r ⊢
 induction r with
 | nil => exact .nil
 | @cons p q ps qs h t ih =>
  rw [List.map_cons,List.map_cons]
  refine .cons ?_ ih
  obtain ⟨h1,h2,h3⟩:=h
  unfold putAt
  by_cases e:p.1 = k
  ·rw [if_pos e,if_pos (h1.symm.trans e)]; exact ⟨h1,h2,ry⟩
  ·rw [if_neg e,if_neg (fun z => e (h1.trans z))]; exact ⟨h1,h2,h3⟩
theorem EKr.put {xs:List (LK × Addr × V)} {vs:List (LK × Addr × Value)} (r:EKr xs vs) (k:LK) (b:Addr) {y:V} {u:Value} (ry:RelV y u):EKr (putX xs k b y) (storedH vs k b u):=by
 have e:((stripX xs).any fun kv => decide (kv.1 = k)) = (atKey vs k).isSome:=by
  rw [valV_any,(r.val k).isSome_eq,Option.isSome_map]
 unfold putX storedH
 rw [e]
 by_cases q:(atKey vs k).isSome = true
 ·rw [if_pos q,if_pos q]; exact r.repl k ry
 ·rw [if_neg q,if_neg q]; exact Paired.snoc r ⟨rfl,rfl,ry⟩
section
variable {X:Cx} {pins:List (Addr × Obj)} {σ : L2.St} {H H':Hp} {s:Shared} {a b:Addr} {y v d:V} {k:LK} {u r:Value} {o:Option V} {A:Around} {E:Value→Shared→Prop} {xs:List (LK × Addr × V)}
end
section
variable {X:Cx} {pins:List (Addr × Obj)} {σ : L2.St} {H:Hp} {s:Shared} {a:Addr}
end
section
variable {X:Cx} {o i e f:Expr} {pos apos cpos:Pos} {td ty tx:TE}
theorem EKr.all:∀ {xs:List (LK × Addr × V)} {vs:List (LK × Addr × Value)} {ys:List (LK × Addr × V)} {us:List (LK × Addr × Value)},EKr xs vs→EKr ys us→EKr (xs.foldl (fun acc x => putX acc x.1 x.2.1 x.2.2) ys) (storedAllH us vs):=by
 intro xs vs ys us r
 unfold EKr at r
 induction r generalizing ys us with
 | nil => intro q; exact q
 | @cons p q ps qs h t ih =>
  intro r0
  have e:=r0.put p.1 p.2.1 h.2.2
  rw [List.foldl_cons]
  show EKr _ (storedAllH (storedH us q.1 q.2.1 q.2.2) qs)
  rw [← h.1,← h.2.1]
  exact ih e
end
end PL
namespace PL
open PySem PySem.Spec PyProof.Rows L2
section
variable {K:PySem.W.Frag} {ι : List Addr} {H:Hp} {k:LK}
end
section
variable {K:PySem.W.Frag} {mg:Str→Option Value} {ι : List Addr} {H:Hp} {S:Sto} {a:Addr} {l:Nat}
end
section
variable {X:Cx} {W:WX} {a b c e o f:Expr} {ma mb mo mf:EM PV} {pos apos cpos:Pos}
end
end PL
namespace PL
open PySem PySem.Spec PyProof.Rows L2 PLa
theorem EKr.get:∀ {xs:List (LK × Addr × V)} {vs:List (LK × Addr × Value)} {i:Nat} {x:LK × Addr × V},EKr xs vs→xs[i]? = some x→∃ y,vs[i]? = some y∧x.1 = y.1∧x.2.1 = y.2.1∧RelV x.2.2 y.2.2
 | _,_,i,x,.nil,e => by simp at e
 | _,_,0,x,.cons h t,e => by
  simp at e; subst e
  exact ⟨_,rfl,h⟩
 | _,_,i + 1,x,.cons h t,e => by
  obtain ⟨y,e1,e2⟩:=EKr.get (i:=i) t (by simpa using e)
  exact ⟨y,by simpa using e1,e2⟩
section
variable {K:PySem.W.Frag} {ι : List Addr} {H:Hp}
theorem RpF.at':∀ {kvs:List (LK × PV)} {xs:List (LK × Addr × V)} {i:Nat} {x:LK × Addr × V},RpF K ι H kvs (stripX xs)→xs[i]? = some x→∃ v,kvs[i]? = some (x.1,v)∧Rp K ι H v x.2.2
 | [],xs,i,x,h,e => by
  have:stripX xs = []:=h
  have:xs = []:=by simpa [stripX] using this
  subst this; simp at e
 | (k,p) :: kvs,[],i,x,h,e => by simp at e
 | (k,p) :: kvs,y :: xs,0,x,h,e => by
  simp at e; subst e
  obtain ⟨v,w,q,h1,h2⟩:=h
  simp only [stripX,List.map_cons,List.cons.injEq,Prod.mk.injEq] at q
  obtain ⟨⟨q1,q2⟩,q3⟩:=q
  subst q1 q2
  exact ⟨p,rfl,h1⟩
 | (k,p) :: kvs,y :: xs,i + 1,x,h,e => by
  obtain ⟨v,w,q,h1,h2⟩:=h
  simp only [stripX,List.map_cons,List.cons.injEq] at q
  obtain ⟨v',e1,e2⟩:=RpF.at' (kvs:=kvs) (xs:=xs) (i:=i) (x:=x) (by rw [show stripX xs = w from q.2]; exact h2) (by simpa using e)
  exact ⟨v',by simpa using e1,e2⟩
end
section
variable {X:Cx} {W:WX} {e:Expr} {ma:EM PV} {apos cpos:Pos}
end
end PL
set_option maxHeartbeats 4000000
namespace PLs
open PySem PySem.Spec PyProof.Rows PySem.W L2 PLa
section
variable {P:Program} {w:World} {A:Around} {E:Value→Shared→Prop} {s:Shared}
end
end PLs
namespace PL
open PySem PySem.Spec PyProof.Rows L2 PLs PLa
section
variable {X:Cx} {W:WX} {a:Expr} {ma:EM PV} {p pos:Pos}
end
section
variable {P:PV→Sto→Prop} {R:Str→PV→Sto→Prop} {S:Sto} {l:Nat} {ks:List TK} {kvs:List (LK × PV)}
end
end PL
namespace PL
open PySem PySem.Spec PyProof.Rows L2
section
variable {X:Cx} {W:WX} {o e:Expr} {es:List Expr} {f:Str} {mo ma:EM PV} {pos:Pos} {to:TE}
end
section
variable {P:PV→Sto→Prop} {R:Str→PV→Sto→Prop} {τ : En} {S:Sto}
end
end PL
namespace PL
open PySem PySem.Spec PyProof.Rows L2
section
variable {X:Cx} {W:WX} {e o i:Expr} {ma mo mi:EM PV} {pos:Pos}
end
section
variable {τ : En} {S:Sto}
end
end PL
namespace PL
open PySem PySem.Spec PyProof.Rows L2
section
variable {X:Cx}
end
end PL
namespace PL
open PySem PySem.Spec PyProof.Rows L2
end PL
namespace PL
open PySem PySem.Spec PyProof.Rows L2
end PL
set_option maxHeartbeats 4000000
namespace PLs
open PySem PySem.Spec PyProof.Rows PySem.W L2 PLa PySem.SeqAt
section
variable {P:Program} {w:World} {A:Around} {E:Value→Shared→Prop} {s:Shared}
def VP (P:Program) (w:World) (h:Heap) (k:List Key) (x:Value) (v:Value):Prop:=∃ (t:Addr) (o:Obj) (n:Nat) (a:Addr),v = .ref t∧h.get? t = some o∧o.cls = .type "tuple"∧o.data = .seq #[.ref a,x] n∧IsT2 P w h k a
theorem VP.keeps {h h':Heap} {k:List Key} {x v:Value} (p:VP P w h k x v) (e:∀ b o,h.get? b = some o→o.cls = .type "tuple"→h'.get? b = some o):VP P w h' k x v:=by
 obtain ⟨t,o,n,a,rfl,ho,hc,hd,o',its,m,ho',hc',r⟩:=p
 exact ⟨t,o,n,a,rfl,e t o ho hc,hc,hd,o',its,m,e a o' ho' hc',hc',r⟩
end
end PLs
namespace PL
open PySem PySem.Spec PyProof.Rows L2 PLs PLa
abbrev pairO (a:Addr) (u:Value):Obj:={ cls:=.type "tuple",data:=.seq #[.ref a,u] }
inductive GrowP:Hp→List (Addr × Addr × V × Value)→Hp→Prop
 | nil {H:Hp}:GrowP H [] H
 | cons {H H':Hp} {z:Addr × Addr × V × Value} {r:List (Addr × Addr × V × Value)}:H z.1 = none→GrowP (upd H z.1 (.frz (pairO z.2.1 z.2.2.2) (.tup [.ref z.2.1,z.2.2.1]))) r H'→GrowP H (z :: r) H'
theorem GrowP.old {H H':Hp} {zs:List (Addr × Addr × V × Value)} (g:GrowP H zs H') {p:Addr} (hz:∀ z ∈ zs,z.1 ≠ p):H' p = H p:=by
 induction g with
 | nil => rfl
 | @cons H H' z r h1 h3 ih => rw [ih fun y h => hz y (by simp [h]),upd_ne (Ne.symm (hz z (by simp)))]
theorem GrowP.new {H H':Hp} {zs:List (Addr × Addr × V × Value)} (g:GrowP H zs H') (nd:(zs.map (·.1)).Nodup):∀ z ∈ zs,H' z.1 = some (.frz (pairO z.2.1 z.2.2.2) (.tup [.ref z.2.1,z.2.2.1])):=by
 induction g with
 | nil => exact fun z h => nomatch h
 | @cons H H' z r h1 h3 ih =>
  rw [List.map_cons,List.nodup_cons] at nd
  intro y hy
  rcases List.mem_cons.mp hy with e | e
  ·subst e
   rw [h3.old fun x hx e => nd.1 (List.mem_map.mpr ⟨x,hx,e⟩),upd_same]
  ·exact ih nd.2 y e
abbrev Zp:=Addr × Addr × V × Value
theorem GrowP.ext {Ωw:World} {ΩP:Program} {K:PySem.W.Frag} {mg:Str→Option Value} {ι : List Addr} {H H':Hp} {S:Sto} {zs:List Zp} (g:GrowP H zs H') (r:RSt ΩP Ωw K mg ι H S):Ext ι H ι H'∧RSt ΩP Ωw K mg ι H' S:=by
 induction g with
 | nil => exact ⟨.refl,r⟩
 | @cons H H' z zs h1 h3 ih =>
  obtain ⟨E,r1⟩:=r.tup (ho:=.frz (pairO z.2.1 z.2.2.2) (.tup [.ref z.2.1,z.2.2.1])) h1
  obtain ⟨E2,r2⟩:=ih r1
  exact ⟨E.trans E2,r2⟩
section
variable {X:Cx} {W:WX} {e:Expr} {ma:EM PV} {p pos apos cpos:Pos}
end
section
variable {P:PV→Sto→Prop} {R:Str→PV→Sto→Prop} {S:Sto} {l:Nat} {ks:List TK} {kvs:List (LK × PV)}
end
end PL
set_option maxHeartbeats 4000000
namespace PLs
open PySem PySem.Spec PyProof.Rows L2
section
variable {B:Cx} {elt:Expr} {gens:List Comprehension} {bsc:Scope} {epos:Pos} {d:Nat} {it:Addr} {acc:Value} {tg:Expr} {body:Sem Unit} {p:Pos} {R:Result→Shared→Prop}
end
section
variable {B:Cx} {el:Expr} {te:TE} {D:Addr}
end
section
variable {X:Cx} {el t0 i0 t1 i1 t2 i2:Expr} {bs:Scope} {p pos:Pos} {wi wi1 wi2:TI} {g g1 g2:TG} {te:TE} {own:List (Str × Nat)} {vs1 vs2:List Nat}
end
end PLs
namespace PL
open PySem PySem.Spec PyProof.Rows L2 PLs
section
variable {X:Cx} {W:WX} {σ0:L2.St} {Q:VK} {ι0:List Addr} {H0:Hp} {D:Addr}
end
end PL
namespace PL
open PySem PySem.Spec PyProof.Rows L2
end PL
namespace PL
open PySem PySem.Spec PyProof.Rows L2
section
variable {X:Cx} {W:WX} {e:Expr} {es:List Expr} {mas:EM (List PV)} {pos:Pos}
end
end PL
namespace PL
open PySem PySem.Spec PyProof.Rows L2
end PL
namespace PL
open PySem PySem.Spec PyProof.Rows L2
section
variable {X:Cx} {x n:Str} {c:Value} {i:Nat} {body suite:List Stmt} {b₀ : Stmt} {np pos pos':Pos} {tb:WX→TS} {ts:Addr→Obj→Value→Option Addr→TS}
inductive ClT (X:Cx):List ExceptHandler→(Ends→WX)→Prop
 | nil:ClT X [] fun _ _ _ _ _ => False
 | cons {x n:Str} {c:Value} {i:Nat} {b₀ : Stmt} {suite:List Stmt} {np pos':Pos} {ts:Addr→Obj→Value→Option Addr→TS} {hs:List ExceptHandler} {w:Ends→WX} (hi:X.N[i]? = some n) (hln:X.env.kindOf n = some .local) (hc:Names X x c)
   (hsu:∀ (a:Addr) (oe:Obj) (cls:Value) (d:Option Addr) (pn:List (Addr × Obj)),Zc cls d oe→(∃ vs,oe.data = .fields vs)→PSs (X.suite a pn) (b₀ :: suite) (ts a oe cls d)) (rest:ClT X hs w) :
   ClT X (.ExceptHandler (some (.Name x np)) (some n) (b₀ :: suite) pos' :: hs) fun D cls d σ H => ∃ b,PySem.W.exmOne X.K cls c = some b∧(b = true→∀ a oe,H a = none→Zc cls d oe→(∃ vs,oe.data = .fields vs) →
    ts a oe cls d { nx:=fun τ G => D.nx (τ.set i none) G,rt:=D.rt,bk:=fun τ G => D.bk (τ.set i none) G,ct:=fun τ G => D.ct (τ.set i none) G } (σ.set i (some (.ref a))) (upd H a (XA a oe)))∧(b = false→w D cls d σ H)
end
end PL
namespace PL
open PySem PySem.Spec PyProof.Rows L2
def offO (i:Nat):OS→OS
 | .nx τ S => .nx (τ.set i none) S
 | o => o
abbrev Cl3:=List (Str × Bool) × Nat × SM
def catL:List Cl3→Str→PV→En→Sto→OS
 | [],_,_,_,_ => .bad
 | q :: r,c,p,τ,S => match q.1.lookup c with
  | some true => if q.2.1 < τ.length then offO q.2.1 (noErS (q.2.2 (τ.set q.2.1 (some (.loc S.length))) (S ++ [.exc c p]))) else .bad
  | some false => catL r c p τ S
  | none => .bad
section
variable {X:Cx} {W:WX} {i:Nat}
inductive RCl (X:Cx):List ExceptHandler→List Cl3→Prop
 | nil:RCl X [] []
 | cons {x n:Str} {c:Value} {i:Nat} {b₀ : Stmt} {suite:List Stmt} {np pos':Pos} {cs:List (Str × Bool)} {mh:SM} {hs:List ExceptHandler} {cl:List Cl3} (hi:X.N[i]? = some n) (hln:X.env.kindOf n = some .local) (hc:Names X x c)
   (hcs:∀ c' b,cs.lookup c' = some b→∀ Ca,X.mg c' = some (.ref Ca)→PySem.W.exmOne X.K (.ref Ca) c = some b)
   (hsu:∀ (a:Addr) (pn:List (Addr × Obj)),RSs (X.suite a pn) noW (b₀ :: suite) mh) (rest:RCl X hs cl):RCl X (.ExceptHandler (some (.Name x np)) (some n) (b₀ :: suite) pos' :: hs) ((cs,i,mh) :: cl)
theorem RCl.to {hs:List ExceptHandler} {cl:List Cl3} (r:RCl X hs cl):∃ w,ClT X hs w∧∀ (D:Ends) (ι1:List Addr) (H1:Hp) (σ1:L2.St) (c':Str) (p:PV) (τ1:En) (S1:Sto) (Ca d:Addr) (y:V),RSt X.prog X.w X.K X.mg ι1 H1 S1→REn X.K ι1 H1 τ1 σ1→X.mg c' = some (.ref Ca)→H1 d = some (.xd [("what",y)])→Rp X.K ι1 H1 p y →
  PkS X W D ι1 H1 (catL cl c' p τ1 S1)→w D (.ref Ca) (some d) σ1 H1:=by
 induction r with
 | nil => exact ⟨_,.nil,fun D ι1 H1 σ1 c' p τ1 S1 Ca d y _ _ _ _ _ pk => pk.elim⟩
 | @cons x n c i b₀ suite np pos' cs mh hs cl hi hln hc hcs hsu rest ih =>
  obtain ⟨w,k1,k2⟩:=ih
  refine ⟨_,.cons (ts:=fun _ _ _ _ => gS X noW mh) hi hln hc (fun a oe cls d pn _ _ => (hsu a _).pss) k1,fun D ι1 H1 σ1 c' p τ1 S1 Ca d y r1 ρ1 hmg hd hp pk => ?_⟩
  unfold catL at pk
  cases hl:cs.lookup c' with
  | none => simp only [hl] at pk; exact pk.elim
  | some b =>
   cases b with
   | false =>
    simp only [hl] at pk
    exact ⟨false,hcs c' false hl Ca hmg,fun z => by (cases z),fun _ => k2 D ι1 H1 σ1 c' p τ1 S1 Ca d y r1 ρ1 hmg hd hp pk⟩
   | true =>
    simp only [hl] at pk
    split at pk
    case isFalse => exact pk.elim
    rename_i hit
    refine ⟨true,hcs c' true hl Ca hmg,fun _ a oe na hz hfl => ?_,fun z => by cases z⟩
    have hda:d ≠ a:=fun z => by rw [z,na] at hd; cases hd
    have hdn:d ∉ ι1:=fun hmm => by
     obtain ⟨l,o,_,_,ho⟩:=r1.mem hmm
     exact ho.no_xd hd
    have E:Ext ι1 H1 (ι1 ++ [a]) (upd H1 a (XA a oe)):=.alloc na
    have r2:=r1.alloc (o:=.exc c' p) na (fun _ _ _ _ => trivial) E ⟨oe,Ca,d,y,upd_same,hmg,hz.1,hz.2,hfl,(fun z => by rcases List.mem_append.mp z with z | z; exact hdn z; simp at z; exact hda z),(upd_ne hda).trans hd,hp.up E⟩
    have q2:Rp X.K (ι1 ++ [a]) (upd H1 a (XA a oe)) (.loc S1.length) (.ref a):=⟨a,rfl,by rw [← r1.len]; simp⟩
    refine ⟨ι1 ++ [a],τ1.set i (some (.loc S1.length)),S1 ++ [.exc c' p],r2,(ρ1.up E).set i q2,?_⟩
    have pk2:=PkS.up pk E
    generalize mh (τ1.set i (some (.loc S1.length))) (S1 ++ [.exc c' p]) = o at pk2 ⊢
    cases o with
    | nx τ2 S2 => exact fun ι' H' σ' e' r' ρ' => pk2 ι' H' _ e' r' (ρ'.unset i)
    | rt v S2 => exact pk2
    | er c2 p2 τ2 S2 => exact pk2.elim
    | bad => exact pk2.elim
variable {e ce:Expr} {es:List Expr} {ma:EM PV} {pos p tp:Pos} {tbl:List (Str × Bool)}
end
section
variable {X:Cx} {es:List Expr}
end
section
variable {τ : En} {S:Sto} {tbl:List (Str × Bool)} {cs:List (Str × Bool)} {i:Nat}
end
end PL
namespace PL
open PySem PySem.Spec PyProof.Rows L2
open Classical in
noncomputable def forSL (t:Wk) (n:Nat) (g:GMs) (b:SM):List PV→SM
 | [] => fun τ S => if t.ok S then .nx τ S else .bad
 | p :: r => fun τ S => if t.ok S then (match p with
  | .tup xs => if n ≤ xs.length∧xs.length ≤ 16384 then (match g (xs.take n ++ [.loc S.length]) τ with | some τ1 => seqO (b τ1 (S ++ [.lst (xs.drop n)])) (forSL t n g b r) | none => .bad) else .bad
  | _ => .bad) else .bad
noncomputable def forSS (m:EM Wk) (n:Nat) (g:GMs) (b:SM):SM:=fun τ S => bndS (m τ S) τ fun t S1 => forSL t n g b t.items τ S1
section
variable {X:Cx} {W:WX} {iter:Expr} {es es':List Expr} {pos pos':Pos}
theorem rs_forStar {k n:Nat} {m:EM Wk} {g:GMs} {sl:List Nat} {b:SM} {body:List Stmt} (hp:PassesOwn (model X.prog X.w) X.A X.env X.xe) (hc:X.calm = true) (hi:RI X W (.Tuple es k pos') iter m) (hg:RGs X es' g sl) (hb:RSs X W body b)
  (ee:(assignEach es X.env).map (·.2) = (assignEach es' X.env).map (·.2):=by rfl) (hn:(assignEach es X.env).length = n + 1:=by rfl) (hst:(assignEach es X.env).findIdx? (·.1) = some n:=by rfl)
  (hs:∀ x,foldedSetIterable iter X.env x = pure x:=by intro _; rfl):RS X W (.For (.Tuple es k pos') iter body [] pos) (forSS m n g b):=by
 refine ⟨ps_weak (ps_for hp hc hi.pi (pg_star hc (pgs_as hg.pgs ee) hn hst) hb.pss hs) fun D σ H ⟨ι,τ,S,r,ρ,pk⟩ => ⟨ι,τ,S,r,ρ,(PkS.next (R:=ItOk X) ρ pk).mono ?_⟩⟩
 rintro J H1 ⟨t,ι1,S1,e1,r1,q1,pk1⟩
 refine ⟨fun i n' σ H => ∃ ι τ S,Ext ι1 H1 ι H∧RSt X.prog X.w X.K X.mg ι H S∧REn X.K ι H τ σ∧n' = t.items.length - i∧i ≤ t.items.length∧PkS X W D ι H (forSL t n g b (t.items.drop i) τ S),
  ⟨t.items.length,ι1,τ,S1,.refl,r1,ρ.up e1,by simp,Nat.zero_le _,by rw [List.drop_zero]; exact pk1⟩,?_⟩
 rintro i n' σ2 H2 ⟨ι2,τ2,S2,e2,r2,ρ2,hn',hle,pk2⟩
 by_cases hlt:i < t.items.length
 ·obtain ⟨p,hp⟩:=get_len hlt
  rw [drop_of_get hp] at pk2
  unfold forSL at pk2
  split at pk2
  case isFalse => exact pk2.elim
  rename_i ok
  obtain ⟨go,step⟩:=(q1 i ι2 H2 S2 e2.w r2 ok).1 hlt
  cases p with
  | tup xs =>
   simp only at pk2
   split at pk2
   case isFalse => exact pk2.elim
   rename_i hx
   cases hgp:g (xs.take n ++ [.loc S2.length]) τ2 with
   | none => rw [hgp] at pk2; exact pk2.elim
   | some τ3 =>
    rw [hgp] at pk2
    unfold PkS at pk2
    rw [wpS_seqO] at pk2
    refine .inr ⟨go,fun σ' H' => ∃ ι τ S,Ext ι1 H1 ι H'∧RSt X.prog X.w X.K X.mg ι H' S∧REn X.K ι H' τ σ'∧PkS X W D ι H' (forSL t n g b (t.items.drop (i + 1)) τ S),fun σ' H' ⟨ι',τ',S',e',r',ρ',pk'⟩ => ⟨n' - 1,by omega,ι',τ',S',e',r',ρ',by omega,by omega,pk'⟩,fun x H3 hy => ?_⟩
    obtain ⟨p',hp',E3,r3,rv3⟩:=step x H3 hy
    rw [hp] at hp'; cases hp'
    obtain ⟨a,vs,rfl,h1,h2⟩:=rv3
    have hl:=h2.length
    refine ⟨a,vs,rfl,h1.seq,by omega,by omega,fun q hq => ?_⟩
    obtain ⟨E4,r4,q4⟩:=r3.new_lst hq (h2.drop n)
    refine ⟨_,τ2,_,_,τ3,r4,(ρ2.up E3).up E4,((h2.take n).up E4).app (.one q4),hgp,fun σ3 ρ3 _ => ⟨_,τ3,_,r4,ρ3,?_⟩⟩
    have E34:=E3.trans E4
    exact wpS_mono pk2 (fun τ' S' w ι' H' σ' e' r' ρ' => ⟨ι',τ',S',e2.trans (E34.trans e'),r',ρ',PkS.up (o:=forSL t n g b (t.items.drop (i + 1)) τ' S') w (E34.trans e')⟩)
     (fun v S' k ι' H' x e' => k ι' H' x (E34.trans e')) fun c p τ S k ι' H' σ' Ca d x e' => k ι' H' σ' Ca d x (E34.trans e')
  | _ => exact pk2.elim
 ·have hi':i = t.items.length:=by omega
  rw [hi',List.drop_length] at pk2
  unfold forSL at pk2
  split at pk2
  ·rename_i ok
   exact .inl ⟨(q1 i ι2 H2 S2 e2.w r2 ok).2 (by omega),pk2 ι2 H2 σ2 .refl r2 ρ2⟩
  ·exact pk2.elim
end
section
variable {N:En→Sto→Prop} {T:PV→Sto→Prop} {R:Str→PV→En→Sto→Prop} {τ : En} {S:Sto}
noncomputable def forS1 (n:Nat) (g:GMs) (b:SM) (τ : En):Wk→Sto→OS:=fun t S1 => forSL t n g b t.items τ S1
@[simp] theorem e_forSS (m:EM Wk) (n:Nat) (g:GMs) (b:SM) (τ : En) (S:Sto):forSS m n g b τ S = bndS (m τ S) τ (forS1 n g b τ):=rfl
@[simp] theorem e_forS1 (n:Nat) (g:GMs) (b:SM) (τ : En) (t:Wk) (S:Sto):forS1 n g b τ t S = forSL t n g b t.items τ S:=rfl
theorem forSM_wp {α : Type} {t:Wk} {n:Nat} {g:GMs} {b:SM} (f : α→List PV) {xs:List α} (Inv:List α→En→Sto→Prop) (h0:Inv [] τ S)
  (hs:∀ dn x rs τ S (J:En→Sto→Prop),xs = dn ++ x :: rs→Inv dn τ S→(∀ τ' S',Inv (dn ++ [x]) τ' S'→J τ' S')→t.ok S∧n ≤ (f x).length∧(f x).length ≤ 16384∧∃ τ1:Nat→En,(∀ l,g ((f x).take n ++ [.loc l]) τ = some (τ1 l))∧∀ l S',S'[l]? = some (.lst ((f x).drop n))→Keep [] S S'→S.length ≤ l→wpS (b (τ1 l) S') J T R)
  (he:∀ τ S,Inv xs τ S→t.ok S∧N τ S):wpS (forSL t n g b (xs.map fun x => .tup (f x)) τ S) N T R:=by
 have key:∀ (rs dn:List α) (τ : En) (S:Sto),xs = dn ++ rs→Inv dn τ S→wpS (forSL t n g b (rs.map fun x => .tup (f x)) τ S) N T R:=by
  intro rs
  induction rs with
  | nil =>
   intro dn τ S e h
   have e':xs = dn:=by simpa using e
   subst e'
   obtain ⟨h1,h2⟩:=he τ S h
   simp only [List.map_nil,forSL,if_pos h1]
   exact h2
  | cons p rs ih =>
   intro dn τ S e h
   obtain ⟨h1,h2,h3,τ1,h4,h5⟩:=hs dn p rs τ S _ e h (fun τ' S' hh => ih (dn ++ [p]) τ' S' (by rw [e]; simp) hh)
   simp only [List.map_cons,forSL,if_pos h1,h2,h3,and_self,if_true,h4]
   rw [wpS_seqO]
   exact h5 _ _ app_new .app (Nat.le_refl _)
 exact key xs [] τ S rfl h0
end
end PL
set_option maxHeartbeats 4000000
namespace PLd
open PySem PySem.Spec PyProof.Rows L2
open PLs (clauseTurn Rounds wipe_kept)
section
variable {B:Cx} {kx vx:Expr} {gens:List Comprehension} {bsc:Scope} {epos:Pos} {d:Nat} {it:Addr} {acc:Value} {tg:Expr} {body:Sem Unit} {p:Pos} {R:Result→Shared→Prop}
theorem clause_run {J:It} {fp:List Addr} {tn:Nat→Heap→Prop} {g:TG} {σ0:L2.St} {pn:List (Addr × Obj)} {Qe:Hp→Prop} {Bp:L2.St→Hp→(Hp→Prop)→Prop} {W:Nat→Nat→Hp→Prop}
  (hc:B.calm = true) (eq:compTurn (.DictComp kx vx gens bsc epos) d (.ref it) acc B.env = clauseTurn (.compLoop (.DictComp kx vx gens bsc epos) d (.ref it) acc B.env) tg B.env p (.ref it) body)
  (T:Turn B.prog B.w B.K tg J fp it tn) (pg:PG B tg g)
  (hf:∀ H',(∀ b ∈ fp,H' b = none)→∀ s,Inv B pn σ0 H' s→∀ b ∈ fp,FpOk B pn H' b)
  (turn:Rounds J W Qe fun x H' Nx => g x σ0 H' fun σ2 H2 => Bp σ2 H2 Nx)
  (hb:∀ (pl:List (Addr × Obj)) (u:Shared) σ2 H2 Nx,Inv B (pn ++ pl) σ2 H2 u→Bp σ2 H2 Nx →
   wpAny (model B.prog B.w) B.A body (fun _ u' => ∃ H',Inv B (pn ++ pl) σ0 H' u'∧Nx H') (fun _ _ => False) u)
  (fin:∀ u H,Inv B pn σ0 H u→Qe H→R (.ok .next) u) (hx:B.xe = fun _ _ => False) :
  ∀ (n i:Nat) (u:Shared) (H:Hp),Inv B pn σ0 H u→tn i u.heap→(∀ b ∈ fp,H b = none)→W i n H→codeAny (model B.prog B.w) B.A (.compLoop (.DictComp kx vx gens bsc epos) d (.ref it) acc B.env) R u:=by
 intro n i u H I0 t0 n0 w0
 refine codeAny_loop rfl (fun m v => ∃ j G,Inv B pn σ0 G v∧tn j v.heap∧(∀ b ∈ fp,G b = none)∧W j m G) (fun m v hv => ?_) n ⟨i,H,I0,t0,n0,w0⟩
 obtain ⟨j,G,I1,t1,n1,w1⟩:=hv
 show wpAny _ B.A ((compTurn (.DictComp kx vx gens bsc epos) d (.ref it) acc B.env).onRaise fun x => do noteFrame x B.env; theTreesLotGoes x) _ _ v
 refine wpAny_noted ?_
 rw [eq]
 unfold clauseTurn
 refine wpAny_bind (wpAny_standAt (wpAny_bind ?_))
 rcases turn j m G w1 with ⟨hs,hq⟩ | ⟨hgo,Nx,more,go⟩
 ·refine thnF (T.done B rfl rfl rfl hc j pn v σ0 G (fun _ _ => False) I1 (hf G n1 v I1) t1 hs) fun r v2 hr => ?_
  obtain ⟨rfl,I2⟩:=hr
  exact wpAny_pure (fin v2 G I2 hq)
 ·refine thnF (T.item B rfl rfl rfl hc j pn v σ0 G (fun _ _ => False) I1 (hf G n1 v I1) t1 hgo) fun r v2 hr => ?_
  obtain ⟨x,rfl,h2⟩:=hr
  refine wpAny_bind (thnF h2 fun _ v3 h3 => ?_)
  obtain ⟨y,G3,I3,ry,hy,t3,n3⟩:=h3
  have P3:=I3.pinned (hf G3 n3 v3 I3) (T.obj _ _ t3)
  have as1:=pg.run (pn ++ pinsAt fp v3.heap) v3 σ0 G3 y x (fun σ2 H2 => Bp σ2 H2 Nx) P3 ry (go y G3 hy)
  rw [hx] at as1
  refine wpAny_bind (thnF as1 fun _ v4 h4 => ?_)
  obtain ⟨σ4,G4,I4,b4⟩:=h4
  refine wpAny_bind (thnF (hb _ v4 σ4 G4 Nx I4 b4) fun _ v5 h5 => ?_)
  obtain ⟨G5,I5,nx⟩:=h5
  obtain ⟨m',lt,w'⟩:=more G5 nx
  have at5:∀ b ∈ fp,∀ o,v3.heap.get? b = some o→v5.heap.get? b = some o∧G5 b = none:=fun b hb o q =>
   have z:=I5.pin (b,o) (List.mem_append_right _ (List.mem_append_right _ (mem_pinsAt hb q)))
   ⟨z.1,z.2.1⟩
  refine wpAny_pure ⟨rfl,m',lt,j + 1,G5,I5.unpinned,T.keep _ _ _ t3 (fun b hb o q => (at5 b hb o q).1),fun b hb => ?_,w'⟩
  obtain ⟨o,q,_⟩:=T.obj _ _ t3 b hb
  exact (at5 b hb o q).2
end
abbrev DC2 (kx vx t0 i0:Expr) (fs:List Expr) (t1 i1:Expr) (b:Scope) (p:Pos):Expr:=.DictComp kx vx [⟨t0,i0,fs,0⟩,⟨t1,i1,[],0⟩] b p
def sourceBody (kx vx t0 i0:Expr) (fs:List Expr) (t1 i1:Expr) (b:Scope) (p:Pos) (acc:Value) (env:Env):Sem Unit :=
 eval i1 env >>= fun x => standAt i1.pos >>= fun _ => foldedSetIterable i1 env x >>= fun y => holding [y] (pyIter y) >>= fun z => runOwn (.compStart (DC2 kx vx t0 i0 fs t1 i1 b p) 1 z acc env) env >>= fun _ => pure ()
def innerBody (kx vx t0 i0:Expr) (fs:List Expr) (t1 i1:Expr) (b:Scope) (p:Pos) (acc:Value) (env:Env):Sem Unit :=
 (forIn fs true fun c r => if r = true then do let ok ← isTrue c env (eval c env); pure (ForInStep.yield ok) else pure (ForInStep.yield r)) >>= fun ok => if ok = true then sourceBody kx vx t0 i0 fs t1 i1 b p acc env else pure ()
def addBody (kx vx:Expr) (D:Addr) (env:Env):Sem Unit :=
 eval kx env >>= fun kv => holding [kv] (eval vx env) >>= fun vv => standAt { kx.pos with endLine:=vx.pos.endLine,endCol:=vx.pos.endCol } >>= fun _ => holding [kv,vv] (dictSet D kv vv)
theorem turn_out (kx vx t0 i0:Expr) (fs:List Expr) (t1 i1:Expr) (b:Scope) (p:Pos) (it:Value) (D:Addr) (env:Env) :
  compTurn (DC2 kx vx t0 i0 fs t1 i1 b p) 0 it (.ref D) env = clauseTurn (.compLoop (DC2 kx vx t0 i0 fs t1 i1 b p) 0 it (.ref D) env) t0 env i0.pos it (innerBody kx vx t0 i0 fs t1 i1 b p (.ref D) env):=by
 unfold compTurn clauseTurn innerBody sourceBody
 simp only [List.getElem?_cons_zero,List.getElem?_cons_succ,Nat.zero_add,bind_assoc]
 simp only [bne_self_eq_false,Bool.false_eq_true,if_false]
 refine congrArg _ (funext fun _ => ?_)
 refine congrArg _ (funext fun r => ?_)
 cases r with
 | none => rfl
 | some v =>
  show (letOwnedTupleGo t0 it v >>= _) = (letOwnedTupleGo t0 it v >>= _)
  refine congrArg _ (funext fun _ => ?_)
  refine congrArg _ (funext fun _ => ?_)
  refine congrArg _ (funext fun ok => ?_)
  cases ok with
  | false => simp only [Bool.false_eq_true,if_false,pure_bind]
  | true => simp only [if_true,bind_assoc,pure_bind]
theorem turn_in (kx vx t0 i0:Expr) (fs:List Expr) (t1 i1:Expr) (b:Scope) (p:Pos) (it:Value) (D:Addr) (env:Env) :
  compTurn (DC2 kx vx t0 i0 fs t1 i1 b p) 1 it (.ref D) env = clauseTurn (.compLoop (DC2 kx vx t0 i0 fs t1 i1 b p) 1 it (.ref D) env) t1 env i1.pos it (addBody kx vx D env):=by
 unfold compTurn clauseTurn addBody
 simp only [List.getElem?_cons_zero,List.getElem?_cons_succ,Nat.zero_add,List.forIn_nil,pure_bind,bind_assoc,if_true]
 rfl
end PLd
namespace PLd
open PySem PySem.Spec PyProof.Rows L2
theorem start_any {prog:Program} {w:World} {A:Around} {R:Result→Shared→Prop} {u:Shared} {kx vx:Expr} {gens:List Comprehension} {bsc:Scope} {epos:Pos} {d:Nat} {it acc:Value} {env:Env} {g:Comprehension} (hg:gens[d]? = some g) (ha:(g.is_async != 0) = false)
  (h0:codeAny (model prog w) A (.compLoop (.DictComp kx vx gens bsc epos) d it acc env) R u)
  (h1:wpAny (model prog w) A (pyIter it) (fun z v => codeAny (model prog w) A (.compLoop (.DictComp kx vx gens bsc epos) d z acc env) R v) (fun _ _ => False) u):codeAny (model prog w) A (.compStart (.DictComp kx vx gens bsc epos) d it acc env) R u:=by
 refine codeAny_of_tree ?_
 show wpAny _ A ((compStart (.DictComp kx vx gens bsc epos) d it acc env).onRaise fun x => do noteFrame x env; standAt theWindowsPlace) _ _ u
 refine wpAny_notedAt ?_
 unfold compStart
 simp only [clausesOf,hg,Option.elim,ha,Bool.false_eq_true,if_false,pure_bind]
 refine wpAny_bind (wpAny_askSetting (wpAny_ite ?_))
 have c:=Bool.eq_false_or_eq_true (w.params.followText "comprehension-iter-twice")
 rcases c with c | c
 ·rw [if_pos (show ({ program:=(model prog w).prog,params:=(model prog w).w.params }:Setting).params.followText "comprehension-iter-twice" = true from c)]
  first
   | exact wpAny_pure ⟨rfl,h0⟩
   | exact wpAny_bind (wpAny_pure (wpAny_pure ⟨rfl,h0⟩))
 ·rw [if_neg (show ¬ ({ program:=(model prog w).prog,params:=(model prog w).w.params }:Setting).params.followText "comprehension-iter-twice" = true from fun z => by rw [show (model prog w).w.params.followText "comprehension-iter-twice" = false from c] at z; cases z)]
  have tail:wpAny (model prog w) A (standAt g.iter.pos >>= fun _ => pyIter it >>= fun z => again (.compLoop (.DictComp kx vx gens bsc epos) d z acc env)) (fun fin v => match fin with | .done f => R (.ok f) v | .again c' => c'.quiet = true∧codeAny (model prog w) A c' R v) (notedBy (model prog w) A env fun x v => R (.error x) v) u :=
   wpAny_bind (wpAny_standAt (wpAny_bind (thnF h1 fun z v hz => wpAny_pure ⟨rfl,hz⟩)))
  first
   | exact wpAny_bind (wpAny_rule tail)
   | exact wpAny_rule tail
section
variable {X:Cx}
def elemW (tk tv:TE) (D:Addr) (Nx:Hp→Prop) (σ3:L2.St) (H6:Hp):Prop:=tk σ3 H6 fun y H7 => tv σ3 H7 fun z H8 => ∃ kvs k,y = kV k∧H8 D = some (.dK kvs)∧kvs.length < sizeLine∧Nx (upd H8 D (.dK (putK kvs k z)))
def innerW (σ : L2.St) (tt:TT) (wi1:TI) (g1:TG) (tk tv:TE) (vs vs1:List Nat) (D:Addr) (σ2:L2.St) (H2:Hp) (Nx:Hp→Prop):Prop :=
 wipe σ2 vs = wipe σ vs∧tt σ2 H2 fun b H3 => if b = true then wi1 σ2 H3 fun J1 H4 => ∃ W1:Nat→Nat→Hp→Prop,(∃ m,W1 0 m H4)∧PLs.Rounds J1 W1 Nx fun x1 H5 Nx1 => g1 x1 (wipe σ2 vs1) H5 fun σ3 H6 => wipe σ3 vs1 = wipe σ2 vs1∧elemW tk tv D Nx1 σ3 H6 else Nx H3
def tDC2 (wi:TI) (g:TG) (tt:TT) (wi1:TI) (g1:TG) (tk tv:TE) (vs vs1:List Nat):TE:=fun σ H Q => wi σ H fun J H1 => ∀ D,H1 D = none →
 ∃ W:Nat→Nat→Hp→Prop,(∃ m,W 0 m (upd H1 D (.dK [])))∧PLs.Rounds J W (Q (.ref D)) fun x H' Nx => g x (wipe σ vs) H' fun σ2 H2 => innerW σ tt wi1 g1 tk tv vs vs1 D σ2 H2 Nx
variable {kx vx t0 i0 t1 i1:Expr} {fs:List Expr} {bs:Scope} {p:Pos} {wi wi1:TI} {g g1:TG} {tt:TT} {tk tv:TE} {own:List (Str × Nat)} {vs1:List Nat}
theorem inner_run {B:Cx} {D:Addr} {σ σ2:L2.St} {H2:Hp} {pl:List (Addr × Obj)} {u:Shared} {Nx:Hp→Prop} {vs:List Nat} (hc:B.calm = true) (hxe:B.xe = fun _ _ => False) (sub:∀ j ∈ vs1,j ∈ vs)
  (pt:PTs B fs tt) (pi1:PI B t1 i1 wi1) (pg1:PG B t1 g1) (pk:PE B kx tk) (pv:PE B vx tv) (hs1:∀ x,foldedSetIterable i1 B.env x = pure x) (I:Inv B pl σ2 H2 u) (h:innerW σ tt wi1 g1 tk tv vs vs1 D σ2 H2 Nx) :
  wpAny (model B.prog B.w) B.A (innerBody kx vx t0 i0 fs t1 i1 bs p (.ref D) B.env) (fun _ v => ∃ H',Inv B pl (wipe σ vs) H' v∧Nx H') (fun _ _ => False) u:=by
 obtain ⟨hw,h⟩:=h
 have r0:=pt.run pl u σ2 H2 _ I h
 rw [hxe] at r0
 unfold innerBody
 refine wpAny_bind (thnF r0 fun b u0 h0 => ?_)
 obtain ⟨H3,I3,h3⟩:=h0
 cases b with
 | false =>
  simp only [Bool.false_eq_true,if_false] at h3 ⊢
  exact wpAny_pure ⟨H3,I3.weak (by rw [← hw,wipe_length]) (fun j x e => by rw [← hw] at e; exact (wipe_some e).1),h3⟩
 | true =>
 simp only [if_true] at h3 ⊢
 have r1:=pi1.run pl u0 σ2 H3 _ I3 h3
 rw [hxe] at r1
 unfold sourceBody
 refine wpAny_bind (thnF r1 fun xv u1 hx => wpAny_bind (wpAny_standAt ?_))
 rw [hs1]
 refine wpAny_bind (wpAny_pure (wpAny_bind (wpAny_holding (thnF hx fun itv u2 h2 => ?_))))
 obtain ⟨it1,fp1,tn1,J1,H4,rfl,I4,T1,st4,f4,W1,⟨m1,w1⟩,turn1⟩:=h2
 refine wpAny_bind (wpAny_runOwn ?_)
 rw [Around.mark_none]
 have run:=clause_run (B:=B) (kx:=kx) (vx:=vx) (gens:=[⟨t0,i0,fs,0⟩,⟨t1,i1,[],0⟩]) (bsc:=bs) (epos:=p) (d:=1) (acc:=.ref D) (σ0:=wipe σ2 vs1) (pn:=pl) (Qe:=Nx)
  (R:=fun r v => match r with | .ok _ => wpAny (model B.prog B.w) B.A (pure ()) (fun _ v => ∃ H',Inv B pl (wipe σ vs) H' v∧Nx H') (fun _ _ => False) v | .error e => cameBackBy (model B.prog B.w) B.A B.env (fun _ _ => False) e v)
  (Bp:=fun σ3 H6 Nx1 => wipe σ3 vs1 = wipe σ2 vs1∧elemW tk tv D Nx1 σ3 H6) hc (turn_in kx vx t0 i0 fs t1 i1 bs p (.ref it1) D B.env) T1 pg1 (fun H' hn v Iv c hcm => ⟨hn c hcm,(f4 c hcm).2⟩) turn1
  (fun pl' v σ3 H6 Nx1 I6 h6 => ?_) (fun v H' Iv nx => wpAny_pure ⟨H',Iv.weak (by rw [← hw,wipe_length,wipe_length]) (fun j x e => PLs.wipe_kept sub (by rw [hw]; exact e)),nx⟩) hxe m1 0 u2 H4
  (I4.weak (wipe_length _ _) fun j x e => (wipe_some e).1) st4 (fun c hcm => (f4 c hcm).1) w1
 ·exact start_any rfl rfl run (T1.self B.A 0 u2 _ _ st4 run)
 ·obtain ⟨hw3,h6⟩:=h6
  have r6:=pk.run _ v σ3 H6 _ I6 h6
  rw [hxe] at r6
  unfold addBody
  refine wpAny_bind (thnF r6 fun z v1 h1 => wpAny_bind (wpAny_holding ?_))
  obtain ⟨y,H7,I7,ry,h7⟩:=h1
  have r7:=pv.run _ v1 σ3 H7 _ I7 h7
  rw [hxe] at r7
  refine thnF r7 fun z2 v2 h8 => wpAny_bind (wpAny_standAt (wpAny_holding ?_))
  obtain ⟨y2,H8,I8,ry2,kvs,k,rfl,hD,hz,nx⟩:=h8
  refine d_dictSet I8 hD hz ry ry2 fun v3 I9 => ⟨_,I9.weak (by rw [← hw3,wipe_length]) (fun j x e => ?_),nx⟩
  rw [← hw3] at e
  exact (wipe_some e).1
theorem block_run {pins:List (Addr × Obj)} {σ : L2.St} {H3:Hp} {s3:Shared} {it D:Addr} {fp:List Addr} {tn:Nat→Heap→Prop} {J:It} {W:Nat→Nat→Hp→Prop} {m0:Nat} {Qe:Hp→Prop} {RR:Result→Shared→Prop}
  (hc:X.calm = true) (hN:X.N.Nodup) (ok:BlkOk X.N X.env.scope bs own) (sub:∀ j ∈ vs1,j ∈ own.map (·.2))
  (hg:∀ (s:Shared) (H:Hp) (C:Addr) (cl:List (Str × Addr)) (fp:List Addr),PG (X.blk s H bs (compEnvC bs cl C X.env) fp) t0 g)
  (ht:∀ (s:Shared) (H:Hp) (C:Addr) (cl:List (Str × Addr)) (fp:List Addr),PTs (X.blk s H bs (compEnvC bs cl C X.env) fp) fs tt)
  (hi1:∀ (s:Shared) (H:Hp) (C:Addr) (cl:List (Str × Addr)) (fp:List Addr),PI (X.blk s H bs (compEnvC bs cl C X.env) fp) t1 i1 wi1)
  (hg1:∀ (s:Shared) (H:Hp) (C:Addr) (cl:List (Str × Addr)) (fp:List Addr),PG (X.blk s H bs (compEnvC bs cl C X.env) fp) t1 g1)
  (hk:∀ (s:Shared) (H:Hp) (C:Addr) (cl:List (Str × Addr)) (fp:List Addr),PE (X.blk s H bs (compEnvC bs cl C X.env) fp) kx tk)
  (he:∀ (s:Shared) (H:Hp) (C:Addr) (cl:List (Str × Addr)) (fp:List Addr),PE (X.blk s H bs (compEnvC bs cl C X.env) fp) vx tv) (hs1:∀ env x,foldedSetIterable i1 env x = pure x)
  (I3:Inv X pins σ H3 s3) (f3:∀ c ∈ fp,FpOk X pins H3 c∧c < s3.heap.objs.size) (T:Turn X.prog X.w X.K t0 J fp it tn) (st3:tn 0 s3.heap) (w0:W 0 m0 H3)
  (turn:PLs.Rounds J W Qe fun x H' Nx => g x (wipe σ (own.map (·.2))) H' fun σ2 H2 => innerW σ tt wi1 g1 tk tv (own.map (·.2)) vs1 D σ2 H2 Nx)
  (fin:∀ u m H',Inv X pins σ H' u→Qe H'→u.heap.Ns s3.heap.objs.size m→FpOk X pins H' s3.heap.objs.size→RR (.ok .next) u) :
  codeAny (model X.prog X.w) X.A (.compStart (DC2 kx vx t0 i0 fs t1 i1 bs p) 0 (.ref it) (.ref D) (compEnvC bs (cellsFrom (s3.heap.objs.size + 1) bs.names (cloFrom X.env.cells bs.names [])) s3.heap.objs.size X.env)) RR
   {s3 with heap:=pushCells (s3.heap.push { cls:=.type "dict",data:=.dict #[] }) bs.names }:=by
 have I4:=block_start I3 ok hN f3
 have a1:=hg s3 H3 s3.heap.objs.size (cellsFrom (s3.heap.objs.size + 1) bs.names (cloFrom X.env.cells bs.names [])) fp
 have a0:=ht s3 H3 s3.heap.objs.size (cellsFrom (s3.heap.objs.size + 1) bs.names (cloFrom X.env.cells bs.names [])) fp
 have a2:=hi1 s3 H3 s3.heap.objs.size (cellsFrom (s3.heap.objs.size + 1) bs.names (cloFrom X.env.cells bs.names [])) fp
 have a3:=hg1 s3 H3 s3.heap.objs.size (cellsFrom (s3.heap.objs.size + 1) bs.names (cloFrom X.env.cells bs.names [])) fp
 have a4:=hk s3 H3 s3.heap.objs.size (cellsFrom (s3.heap.objs.size + 1) bs.names (cloFrom X.env.cells bs.names [])) fp
 have a5:=he s3 H3 s3.heap.objs.size (cellsFrom (s3.heap.objs.size + 1) bs.names (cloFrom X.env.cells bs.names [])) fp
 generalize hce:compEnvC bs (cellsFrom (s3.heap.objs.size + 1) bs.names (cloFrom X.env.cells bs.names [])) s3.heap.objs.size X.env = ce at I4 a0 a1 a2 a3 a4 a5 ⊢
 have cL:ce.locals = s3.heap.objs.size:=by subst hce; rfl
 generalize hs4:({ s3 with heap:=pushCells (s3.heap.push { cls:=.type "dict",data:=.dict #[] }) bs.names }:Shared) = s4 at I4 ⊢
 have st4:tn 0 s4.heap:=T.keep _ _ _ st3 fun c _ o q => by rw [← hs4]; exact pushCells_keeps _ _ _ _ (Heap.get?_push_of_some _ q)
 have run:=clause_run (B:=X.blk s3 H3 bs ce fp) (kx:=kx) (vx:=vx) (gens:=[⟨t0,i0,fs,0⟩,⟨t1,i1,[],0⟩]) (bsc:=bs) (epos:=p) (d:=0) (acc:=.ref D) (σ0:=wipe σ (own.map (·.2))) (pn:=[]) (Qe:=Qe) (R:=RR)
  (Bp:=fun σ2 H2 Nx => innerW σ tt wi1 g1 tk tv (own.map (·.2)) vs1 D σ2 H2 Nx) hc (turn_out kx vx t0 i0 fs t1 i1 bs p (.ref it) D ce) T a1
  (fun H' hn v Iv c hcm => ⟨hn c hcm,(Iv.ok.exf c hcm).1,Iv.ok.exfs c hcm,.inl hcm,fun x a q => (Iv.ok.exf c hcm).2 x a q,fun q hq => absurd (show q ∈ ([]:List (Addr × Obj)) ++ [] from hq) (by simp)⟩) turn
  (fun pl v σ2 H2 Nx Iv hv => inner_run (B:=X.blk s3 H3 bs ce fp) hc rfl sub a0 a2 a3 a4 a5 (fun x => hs1 ce x) Iv hv) (fun v H' Iv hq => ?_) rfl m0 0 s4 H3 I4 st4 (fun c hcm => (f3 c hcm).1.1) w0
 ·exact start_any rfl rfl run (T.self X.A 0 s4 _ _ st4 run)
 ·have Ix:Inv X pins σ H' v:=I3.call' (ch:=fp) Iv.os Iv.base Iv.hok Iv.bare fun c hcm => by
   obtain ⟨_,z1,_,z3,z4,z5⟩:=(f3 c hcm).1
   exact ⟨z3,z1,z4,z5⟩
  have nC:H' s3.heap.objs.size = none:=by
   have z:H' ce.locals = none:=Iv.free
   rwa [cL] at z
  obtain ⟨m,hn,_⟩:=Iv.loc
  have hn':v.heap.Ns ce.locals m:=hn
  rw [cL] at hn'
  exact fin v m H' Ix hq hn' (I3.fpOk (Nat.le_refl _) nC)
theorem pe_dc2 (hc:X.calm = true) (hN:X.N.Nodup) (hi:PI X t0 i0 wi) (ok:BlkOk X.N X.env.scope bs own) (sub:∀ j ∈ vs1,j ∈ own.map (·.2))
  (hg:∀ (s:Shared) (H:Hp) (C:Addr) (cl:List (Str × Addr)) (fp:List Addr),PG (X.blk s H bs (compEnvC bs cl C X.env) fp) t0 g)
  (ht:∀ (s:Shared) (H:Hp) (C:Addr) (cl:List (Str × Addr)) (fp:List Addr),PTs (X.blk s H bs (compEnvC bs cl C X.env) fp) fs tt)
  (hi1:∀ (s:Shared) (H:Hp) (C:Addr) (cl:List (Str × Addr)) (fp:List Addr),PI (X.blk s H bs (compEnvC bs cl C X.env) fp) t1 i1 wi1)
  (hg1:∀ (s:Shared) (H:Hp) (C:Addr) (cl:List (Str × Addr)) (fp:List Addr),PG (X.blk s H bs (compEnvC bs cl C X.env) fp) t1 g1)
  (hk:∀ (s:Shared) (H:Hp) (C:Addr) (cl:List (Str × Addr)) (fp:List Addr),PE (X.blk s H bs (compEnvC bs cl C X.env) fp) kx tk)
  (he:∀ (s:Shared) (H:Hp) (C:Addr) (cl:List (Str × Addr)) (fp:List Addr),PE (X.blk s H bs (compEnvC bs cl C X.env) fp) vx tv)
  (hs0:∀ x,foldedSetIterable i0 X.env x = pure x:=by intro _; rfl) (hs1:∀ env x,foldedSetIterable i1 env x = pure x:=by intro _ _; rfl) :
  PE X (DC2 kx vx t0 i0 fs t1 i1 bs p) (tDC2 wi g tt wi1 g1 tk tv (own.map (·.2)) vs1):=by
 refine ⟨fun pins s σ H Q I h => ?_⟩
 have cells:∀ z ∈ bs.names,z.2 = .free→∃ c,X.env.cells.lookup z.1 = some c:=fun z hz e => I.ok.has _ (ok.free z hz e)
 rw [arm_eval_DictComp]
 refine wpAny_comprehension_free (use:=none) rfl hs0 (closure_ok cells) ok.kind (fun z hz e => by rw [ok.uniq z hz,e])
  (thn (hi.run pins s σ H _ I h) fun xv s1 hx => thn hx fun itv s2 h2 => ?_)
 obtain ⟨it,fp,tn,J,H2,rfl,I2,T,st2,f2,q⟩:=h2
 refine wpAny_newObj_type (newEnv_comp ?_)
 generalize hD:s2.heap.objs.size = D
 obtain ⟨W,⟨m0,w0⟩,turn⟩:=q D (I2.hok.fresh (Nat.le_of_eq hD))
 have I3:Inv X pins σ (upd H2 D (.dK [])) { s2 with heap:=s2.heap.push { cls:=.type "dict",data:=.dict #[] } } :=
  I2.laid (t':=s2.toks) (fun c o e => Heap.get?_push_of_some _ e) (Nat.le_of_eq hD) (by rw [← hD]; exact dk_empty s2.heap I2.big)
 have f3:∀ c ∈ fp,FpOk X pins (upd H2 D (.dK [])) c∧c < (s2.heap.push { cls:=.type "dict",data:=.dict #[] }).objs.size:=fun c hcm => by
  obtain ⟨o,e,_⟩:=T.obj _ _ st2 c hcm
  have lt:=Heap.lt_size e
  refine ⟨⟨?_,(f2 c hcm).2⟩,by rw [Heap.size_push]; exact Nat.lt_succ_of_lt lt⟩
  rw [upd_ne (by rw [← hD]; exact Nat.ne_of_lt lt)]
  exact (f2 c hcm).1
 refine block_run hc hN ok sub hg ht hi1 hg1 hk he hs1 I3 f3 T (T.keep _ _ _ st2 fun c _ o e => Heap.get?_push_of_some _ e) w0 turn fun v m H' Iv hq hn hf => ?_
 obtain ⟨f0,f1,f2,f3,f4,f5⟩:=hf
 refine ⟨m,hn,fun h3 sb3 => ?_⟩
 exact ⟨.ref D,H',Iv.turned (t':=v.toks) (fun c o hb e => (sb3.2 c hb).trans e) f0 f1 f3 f4 f5,rfl,hq⟩
end
end PLd
namespace PL
open PySem PySem.Spec PyProof.Rows L2 PLd
open Classical in
theorem accD_cons (t:Wk) (g:GM) (step:List (Key × PV)→En→Sto→Out (List (Key × PV))) (acc:List (Key × PV)) (p:PV) (r:List PV) (τ : En) (S:Sto):accD t g step acc (p :: r) τ S =
  if t.ok S then (match g p τ with | some τ1 => bnd (step acc τ1 S) fun acc' S1 => accD t g step acc' r τ S1 | none => .bad) else .bad:=rfl
open Classical in
theorem accD_nil (t:Wk) (g:GM) (step:List (Key × PV)→En→Sto→Out (List (Key × PV))) (acc:List (Key × PV)) (τ : En) (S:Sto):accD t g step acc [] τ S = if t.ok S then .ok acc S else .bad:=rfl
def stepKV (ke el:EM PV):List (Key × PV)→En→Sto→Out (List (Key × PV)):=fun acc τ S => bnd (noEr (ke τ S)) fun kp S2 => bnd (noEr (el τ S2)) fun y S3 => match keyP kp with | some kk => if acc.length < 16777216 then .ok (putP acc kk y) S3 else .bad | none => .bad
noncomputable def stepDI (tt:EM Bool) (m1:EM Wk) (g1:GM) (ke el:EM PV) (vs1:List Nat):List (Key × PV)→En→Sto→Out (List (Key × PV)):=fun acc τ S => bnd (noEr (tt τ S)) fun k S1 =>
 if k = true then bnd (noEr (m1 τ S1)) fun t1 S2 => accD t1 g1 (stepKV ke el) acc t1.items (wipeE τ vs1) S2 else .ok acc S1
noncomputable def dc2M (m:EM Wk) (g:GM) (tt:EM Bool) (m1:EM Wk) (g1:GM) (ke el:EM PV) (vs vs1:List Nat):EM PV:=fun τ S => bnd (m τ S) fun t S1 => newDc (accD t g (stepDI tt m1 g1 ke el vs1) [] t.items (wipeE τ vs) S1)
section
variable {X:Cx} {W:WX} {tg iter:Expr} {pos:Pos}
theorem dc2_read {m m1:EM Wk} {g g1:GM} {sl sl1:List Nat} {tt:EM Bool} {ke el:EM PV} {vs vs1:List Nat} (hsl:∀ i ∈ sl,i ∈ vs) (hsl1:∀ i ∈ sl1,i ∈ vs1) (σ : L2.St) (H:Hp) (Q:VK) (h:gE X W (rV X) (dc2M m g tt m1 g1 ke el vs vs1) σ H Q) :
  tDC2 (gE X W (ItOk X) m) (gG X g sl) (gE X W0 rB tt) (gE X W0 (ItOk X) m1) (gG X g1 sl1) (gE X W0 (rV X) ke) (gE X W0 (rV X) el) vs vs1 σ H Q:=by
 obtain ⟨ι,τ,S,r,ρ,pk⟩:=h
 refine ⟨ι,τ,S,r,ρ,pk.next.mono ?_⟩
 rintro J H1 ⟨t,ι1,S1,e1,r1,q1,pk1⟩
 intro D hD
 have ρ1:=(ρ.up e1).wipe vs
 obtain ⟨E0,r0⟩:=r1.tup (ho:=.dK []) hD
 have nD:D ∉ ι1:=fun hm => by
  obtain ⟨l0,o0,_,_,h3⟩:=r1.mem hm
  exact h3.mut.2.1 hD
 refine ⟨fun i n H => ∃ ι S acc,Ext ι1 H1 ι H∧RSt X.prog X.w X.K X.mg ι H S∧REn X.K ι H (wipeE τ vs) (wipe σ vs)∧Dd X.K ι H D acc∧n = t.items.length - i∧i ≤ t.items.length ∧
   Pk X W (rV X) σ Q ι1 H1 (newDc (accD t g (stepDI tt m1 g1 ke el vs1) acc (t.items.drop i) (wipeE τ vs) S)),
  ⟨t.items.length,ι1,S1,[],E0,r0,ρ1.up E0,⟨nD,[],upd_same,rfl⟩,by simp,Nat.zero_le _,by rw [List.drop_zero]; exact pk1⟩,?_⟩
 rintro i n H2 ⟨ι2,S2,acc,e2,r2,ρ2,d2,hn,hle,pk2⟩
 by_cases hlt:i < t.items.length
 ·obtain ⟨p,hp⟩:=get_len hlt
  rw [drop_of_get hp,accD_cons] at pk2
  split at pk2
  ·rename_i ok
   obtain ⟨go,step⟩:=(q1 i ι2 H2 S2 e2.w r2 ok).1 hlt
   cases hgp:g p (wipeE τ vs) with
   | none => rw [hgp] at pk2; exact pk2.elim
   | some τ3 =>
    rw [hgp] at pk2
    refine .inr ⟨go,fun H' => ∃ ι S acc,Ext ι1 H1 ι H'∧RSt X.prog X.w X.K X.mg ι H' S∧REn X.K ι H' (wipeE τ vs) (wipe σ vs)∧Dd X.K ι H' D acc∧Pk X W (rV X) σ Q ι1 H1 (newDc (accD t g (stepDI tt m1 g1 ke el vs1) acc (t.items.drop (i + 1)) (wipeE τ vs) S)),
     fun H' ⟨ι',S',acc',e',r',ρ',d',pk'⟩ => ⟨n - 1,by omega,ι',S',acc',e',r',ρ',d',by omega,by omega,pk'⟩,fun x H3 hy => ?_⟩
    obtain ⟨p',hp',E3,r3,rv3⟩:=step x H3 hy
    rw [hp] at hp'; cases hp'
    refine ⟨ι2,wipeE τ vs,S2,p,τ3,r3,ρ2.up E3,rv3,hgp,fun σ3 ρ3 c3 => ⟨c3 vs hsl |>.trans (by rw [wipe_wipe]),ι2,τ3,S2,r3,ρ3,?_⟩⟩
    cases ht:tt τ3 S2 with
    | bad => simp only [stepDI,ht,noEr_bad,bnd_bad,newDc] at pk2; exact pk2.elim
    | er c p S' => simp only [stepDI,ht,noEr_er,bnd_bad,newDc] at pk2; exact pk2.elim
    | ok k S4 =>
     show ∀ ι' H' x,Ext ι2 H3 ι' H'→RSt X.prog X.w X.K X.mg ι' H' S4→k = x→_
     rintro ι4 H4 k' E4 r4 rfl
     simp only [stepDI,ht,noEr_ok,bnd_ok] at pk2
     cases k with
     | false =>
      rw [if_neg Bool.false_ne_true] at pk2 ⊢
      exact ⟨ι4,S4,acc,(e2.trans E3).trans E4,r4,(ρ2.up E3).up E4,(d2.up E3).up E4,pk2⟩
     | true =>
      rw [if_pos rfl] at pk2 ⊢
      refine ⟨ι4,τ3,S4,r4,ρ3.up E4,?_⟩
      cases hm1:m1 τ3 S4 with
      | bad => simp only [hm1,noEr_bad,bnd_bad,newDc] at pk2; exact pk2.elim
      | er c p S' => simp only [hm1,noEr_er,bnd_bad,newDc] at pk2; exact pk2.elim
      | ok t1 S5 =>
       show ∀ ι' H' x,Ext ι4 H4 ι' H'→RSt X.prog X.w X.K X.mg ι' H' S5→ItOk X ι' H' t1 x→_
       intro ι5 H5 J1 E5 r5 q5
       simp only [hm1,noEr_ok,bnd_ok] at pk2
       have ρ5:=(((ρ3.up E4).up E5)).wipe vs1
       have ρo:=((ρ2.up E3).up E4).up E5
       have d5:=((d2.up E3).up E4).up E5
       have e5:=((e2.trans E3).trans E4).trans E5
       refine ⟨fun j l H => ∃ ι S acc,Ext ι1 H1 ι H∧ExtW ι5 H5 ι H∧RSt X.prog X.w X.K X.mg ι H S∧REn X.K ι H (wipeE τ vs) (wipe σ vs)∧REn X.K ι H (wipeE τ3 vs1) (wipe σ3 vs1)∧Dd X.K ι H D acc∧l = t1.items.length - j∧j ≤ t1.items.length ∧
         Pk X W (rV X) σ Q ι1 H1 (newDc (bnd (accD t1 g1 (stepKV ke el) acc (t1.items.drop j) (wipeE τ3 vs1) S) fun acc' S1 => accD t g (stepDI tt m1 g1 ke el vs1) acc' (t.items.drop (i + 1)) (wipeE τ vs) S1)),
        ⟨t1.items.length,ι5,S5,acc,e5,.refl,r5,ρo,ρ5,d5,by simp,Nat.zero_le _,by rw [List.drop_zero]; exact pk2⟩,?_⟩
       rintro j l H6 ⟨ι6,S6,acc6,e6,b6,r6,ρo6,ρ6,d6,hl6,hle6,pk6⟩
       by_cases hlt6:j < t1.items.length
       ·obtain ⟨p6,hp6⟩:=get_len hlt6
        rw [drop_of_get hp6,accD_cons] at pk6
        split at pk6
        ·rename_i ok6
         obtain ⟨go6,step6⟩:=(q5 j ι6 H6 S6 b6 r6 ok6).1 hlt6
         cases hgp6:g1 p6 (wipeE τ3 vs1) with
         | none => rw [hgp6] at pk6; exact pk6.elim
         | some τ7 =>
          rw [hgp6] at pk6
          refine .inr ⟨go6,fun H' => ∃ ι S acc,Ext ι1 H1 ι H'∧ExtW ι5 H5 ι H'∧RSt X.prog X.w X.K X.mg ι H' S∧REn X.K ι H' (wipeE τ vs) (wipe σ vs)∧REn X.K ι H' (wipeE τ3 vs1) (wipe σ3 vs1)∧Dd X.K ι H' D acc ∧
            Pk X W (rV X) σ Q ι1 H1 (newDc (bnd (accD t1 g1 (stepKV ke el) acc (t1.items.drop (j + 1)) (wipeE τ3 vs1) S) fun acc' S1 => accD t g (stepDI tt m1 g1 ke el vs1) acc' (t.items.drop (i + 1)) (wipeE τ vs) S1)),
           fun H' ⟨ι',S',acc',e',b',r',ρo',ρ',d',pk'⟩ => ⟨l - 1,by omega,ι',S',acc',e',b',r',ρo',ρ',d',by omega,by omega,pk'⟩,fun x H7 hy => ?_⟩
          obtain ⟨p',hp',E7,r7,rv7⟩:=step6 x H7 hy
          rw [hp6] at hp'; cases hp'
          refine ⟨ι6,wipeE τ3 vs1,S6,p6,τ7,r7,ρ6.up E7,rv7,hgp6,fun σ7 ρ7 c7 => ⟨c7 vs1 hsl1 |>.trans (by rw [wipe_wipe]),ι6,τ7,S6,r7,ρ7,?_⟩⟩
          cases hke:ke τ7 S6 with
          | bad => simp only [stepKV,hke,noEr_bad,bnd_bad,newDc] at pk6; exact pk6.elim
          | er c p S' => simp only [stepKV,hke,noEr_er,bnd_bad,newDc] at pk6; exact pk6.elim
          | ok kp S8 =>
           show ∀ ι' H' x,Ext ι6 H7 ι' H'→RSt X.prog X.w X.K X.mg ι' H' S8→Rp X.K ι' H' kp x→_
           intro ι8 H8 kv E8 r8 q8
           simp only [stepKV,hke,noEr_ok,bnd_ok] at pk6
           refine ⟨ι8,τ7,S8,r8,ρ7.up E8,?_⟩
           cases hel:el τ7 S8 with
           | bad => simp only [hel,noEr_bad,bnd_bad,newDc] at pk6; exact pk6.elim
           | er c p S' => simp only [hel,noEr_er,bnd_bad,newDc] at pk6; exact pk6.elim
           | ok y S9 =>
            show ∀ ι' H' x,Ext ι8 H8 ι' H'→RSt X.prog X.w X.K X.mg ι' H' S9→Rp X.K ι' H' y x→_
            intro ι9 H9 yv E9 r9 q9
            simp only [hel,noEr_ok,bnd_ok] at pk6
            cases hkk:keyP kp with
            | none => simp only [hkk,bnd_bad,newDc] at pk6; exact pk6.elim
            | some kk =>
             simp only [hkk] at pk6
             split at pk6
             ·rename_i hacc
              simp only [bnd_ok] at pk6
              have d9:=((d6.up E7).up E8).up E9
              obtain ⟨ws,h1,h2⟩:=d9.obj
              obtain ⟨E10,r10,d10,b10⟩:=Dd.write (acc:=putP acc6 kk y) (ws:=putK ws kk yv) hD (((e6.trans E7).trans E8).trans E9) r9 d9.nin h1 (h2.put q9)
              exact ⟨ws,kk,keyP_rp hkk (q8.up E9),h1,by rw [← h2.length,sizeLine_eq]; exact hacc,ι9,S9,putP acc6 kk y,E10,(((b6.trans E7.w).trans E8.w).trans E9.w).trans b10,r10,REn.upW b10 (((ρo6.up E7).up E8).up E9),REn.upW b10 (((ρ6.up E7).up E8).up E9),d10,pk6⟩
             ·exact pk6.elim
        ·exact pk6.elim
       ·have hi':j = t1.items.length:=by omega
        rw [hi',List.drop_length,accD_nil] at pk6
        split at pk6
        ·rename_i ok6
         exact .inl ⟨(q5 j ι6 H6 S6 b6 r6 ok6).2 (by omega),ι6,S6,acc6,e6,r6,ρo6,d6,pk6⟩
        ·exact pk6.elim
  ·exact pk2.elim
 ·have hi':i = t.items.length:=by omega
  rw [hi',List.drop_length,accD_nil] at pk2
  split at pk2
  ·rename_i ok
   obtain ⟨E,r',q'⟩:=Dd.adopt hD e2 r2 d2
   exact .inl ⟨(q1 i ι2 H2 S2 e2.w r2 ok).2 (by omega),pk2 _ _ _ E r' q'⟩
  ·exact pk2.elim
theorem re_dc2 {kx vx tg1 iter1:Expr} {ifs:List Expr} {scope:Scope} {own:List (Str × Nat)} {vs1:List Nat} {m m1:EM Wk} {g g1:GM} {sl sl1:List Nat} {tt:EM Bool} {ke el:EM PV} (hc:X.calm = true) (hN:X.N.Nodup) (hi:RI X W tg iter m) (ok:BlkOk X.N X.env.scope scope own) (hv:∀ i ∈ vs1,i ∈ own.map (·.2))
  (hg:∀ (s:Shared) (H:Hp) (C:Addr) (cl:List (Str × Addr)) (fp:List Addr),RG (X.blk s H scope (compEnvC scope cl C X.env) fp) tg g sl) (ht:∀ (s:Shared) (H:Hp) (C:Addr) (cl:List (Str × Addr)) (fp:List Addr),RTs (X.blk s H scope (compEnvC scope cl C X.env) fp) W0 ifs tt)
  (hi1:∀ (s:Shared) (H:Hp) (C:Addr) (cl:List (Str × Addr)) (fp:List Addr),RI (X.blk s H scope (compEnvC scope cl C X.env) fp) W0 tg1 iter1 m1)
  (hg1:∀ (s:Shared) (H:Hp) (C:Addr) (cl:List (Str × Addr)) (fp:List Addr),RG (X.blk s H scope (compEnvC scope cl C X.env) fp) tg1 g1 sl1)
  (hk:∀ (s:Shared) (H:Hp) (C:Addr) (cl:List (Str × Addr)) (fp:List Addr),RE (X.blk s H scope (compEnvC scope cl C X.env) fp) W0 kx ke)
  (he:∀ (s:Shared) (H:Hp) (C:Addr) (cl:List (Str × Addr)) (fp:List Addr),RE (X.blk s H scope (compEnvC scope cl C X.env) fp) W0 vx el) (hsl:∀ i ∈ sl,i ∈ own.map (·.2)) (hsl1:∀ i ∈ sl1,i ∈ vs1) (hs:∀ x,foldedSetIterable iter X.env x = pure x:=by intro _; rfl) (hs1:∀ env x,foldedSetIterable iter1 env x = pure x:=by intro _ _; rfl) :
  RE X W (.DictComp kx vx [⟨tg,iter,ifs,0⟩,⟨tg1,iter1,[],0⟩] scope pos) (dc2M m g tt m1 g1 ke el (own.map (·.2)) vs1) :=
 ⟨pe_weak (pe_dc2 hc hN hi.pi ok hv (fun s H C cl fp => (hg s H C cl fp).pg) (fun s H C cl fp => (ht s H C cl fp).pts) (fun s H C cl fp => (hi1 s H C cl fp).pi) (fun s H C cl fp => (hg1 s H C cl fp).pg) (fun s H C cl fp => (hk s H C cl fp).pe) (fun s H C cl fp => (he s H C cl fp).pe) hs hs1)
  fun σ H Q h => dc2_read hsl hsl1 σ H Q h⟩
end
section
variable {τ : En} {S:Sto}
noncomputable def dc2a (g:GM) (tt:EM Bool) (m1:EM Wk) (g1:GM) (ke el:EM PV) (vs vs1:List Nat) (τ : En) (t:Wk) (S1:Sto):Out PV:=newDc (accD t g (stepDI tt m1 g1 ke el vs1) [] t.items (wipeE τ vs) S1)
@[simp] theorem e_dc2M (m:EM Wk) (g:GM) (tt:EM Bool) (m1:EM Wk) (g1:GM) (ke el:EM PV) (vs vs1:List Nat):dc2M m g tt m1 g1 ke el vs vs1 τ S = bnd (m τ S) (dc2a g tt m1 g1 ke el vs vs1 τ):=rfl
@[simp] theorem e_dc2a (g:GM) (tt:EM Bool) (m1:EM Wk) (g1:GM) (ke el:EM PV) (vs vs1:List Nat) (t:Wk):dc2a g tt m1 g1 ke el vs vs1 τ t S = newDc (accD t g (stepDI tt m1 g1 ke el vs1) [] t.items (wipeE τ vs) S):=rfl
noncomputable def sDI1 (m1:EM Wk) (g1:GM) (ke el:EM PV) (vs1:List Nat) (acc:List (Key × PV)) (τ : En) (k:Bool) (S1:Sto):Out (List (Key × PV)):=if k = true then bnd (noEr (m1 τ S1)) fun t1 S2 => accD t1 g1 (stepKV ke el) acc t1.items (wipeE τ vs1) S2 else .ok acc S1
noncomputable def sDI2 (g1:GM) (ke el:EM PV) (vs1:List Nat) (acc:List (Key × PV)) (τ : En) (t1:Wk) (S2:Sto):Out (List (Key × PV)):=accD t1 g1 (stepKV ke el) acc t1.items (wipeE τ vs1) S2
@[simp] theorem e_sDI1 (m1:EM Wk) (g1:GM) (ke el:EM PV) (vs1:List Nat) (acc:List (Key × PV)) (k:Bool):sDI1 m1 g1 ke el vs1 acc τ k S = if k = true then bnd (noEr (m1 τ S)) (sDI2 g1 ke el vs1 acc τ) else .ok acc S:=rfl
@[simp] theorem e_sDI2 (g1:GM) (ke el:EM PV) (vs1:List Nat) (acc:List (Key × PV)) (t1:Wk):sDI2 g1 ke el vs1 acc τ t1 S = accD t1 g1 (stepKV ke el) acc t1.items (wipeE τ vs1) S:=rfl
theorem stepDI_wp {tt:EM Bool} {m1:EM Wk} {g1:GM} {ke el:EM PV} {vs1:List Nat} {acc:List (Key × PV)} {P:List (Key × PV)→Sto→Prop} {R:Str→PV→Sto→Prop} :
  wp (stepDI tt m1 g1 ke el vs1 acc τ S) P R = wp (tt τ S) (wK (sDI1 m1 g1 ke el vs1 acc τ) P R) noK:=by
 show wp (bnd (noEr (tt τ S)) (sDI1 m1 g1 ke el vs1 acc τ)) P R = _
 rw [wp_bnd,e_noEr]
 rfl
theorem stepKV_wp {ke el:EM PV} {acc:List (Key × PV)} {P:List (Key × PV)→Sto→Prop} {R:Str→PV→Sto→Prop} :
  wp (stepKV ke el acc τ S) P R = wp (ke τ S) (wK (sD2 el acc τ) P R) noK:=by
 show wp (bnd (noEr (ke τ S)) (sD2 el acc τ)) P R = _
 rw [wp_bnd,e_noEr]
 rfl
end
end PL
namespace PL
open PySem PySem.Spec PyProof.Rows L2 PLa
section
variable {X:Cx} {W:WX} {e tg:Expr} {ma:EM PV}
end
end PL
namespace PL
open PySem PySem.Spec PyProof.Rows L2 PLa
section
variable {X:Cx} {W:WX} {mas:EM (List PV)} {pos:Pos} {kws:List Keyword}
end
section
variable {τ : En} {S:Sto}
end
end PL
namespace PL
open PySem PySem.Spec PyProof.Rows L2
def rdK (kvs:List (Str × Int)):List (Key × V):=kvs.map fun q => (.inr q.1,.int q.2)
def rdP (kvs:List (Str × Int)):List (Key × PV):=kvs.map fun q => (.inr q.1,.int q.2)
structure RDs (K:PySem.W.Frag) (mg:Str→Option Value) (w:World) (N:Str) (kvs:List (Str × Int)):Prop where
 ex:∃ (a:Addr) (vs:List (Key × Value)),mg N = some (.ref a)∧(a == sysModules) = false∧kvs.length ≤ sizeLine∧KV (rdK kvs) vs∧∀ (prog:Program) (h:Heap),K.In h→h.DictOf (mixKind prog w) a vs
def RowsLit (P:Params):List DictEntry→List (Str × Int)→Prop
 | [],[] => True
 | e :: r,q :: qs => (∃ t u,e.key = .str q.1 t∧e.hash = PyData.keyHash P q.1∧e.val = .int q.2 u)∧RowsLit P r qs
 | _,_ => False
theorem rows_lit {w:World}:∀ {l:List DictEntry} {kvs:List (Str × Int)},RowsLit w.params l kvs→∃ vs:List (Key × Value),KV (rdK kvs) vs∧(∀ prog:Program,Pairs (mixKind prog w) l vs)∧vs.map (·.1) = kvs.map (fun q => (.inr q.1:Key))∧∀ e ∈ l,∃ x t,e.key = .str x t∧e.hash = PyData.keyHash w.params x
 | [],[],_ => ⟨[],.nil,fun _ => .nil,rfl,by simp⟩
 | e :: r,q :: qs,⟨⟨t,u,h1,h2,h3⟩,hr⟩ => by
  obtain ⟨vs,a1,a2,a3,a4⟩:=rows_lit hr
  refine ⟨(.inr q.1,.int q.2 u) :: vs,.cons ⟨rfl,u,rfl⟩ a1,fun p => .cons (kv:=(.inr q.1,.int q.2 u)) ?_ h3 (a2 p),by simp [a3],?_⟩
  ·rw [h1]; exact kV_is (k:=.inr q.1) ⟨t,rfl⟩
  ·intro e' he'
   rcases List.mem_cons.mp he' with rfl | z
   ·exact ⟨q.1,t,h1,h2⟩
   ·exact a4 e' z
 | [],_ :: _,h => h.elim
 | _ :: _,[],h => h.elim
theorem rds_of {K:PySem.W.Frag} {mg:Str→Option Value} {w:World} {N:Str} {kvs:List (Str × Int)} {a:Addr} {es:Array DictEntry} {n:Nat} (hm:mg N = some (.ref a)) (hs:(a == sysModules) = false) (hl:K.lookup a = some ⟨.type "dict",none,.dict es n,#[]⟩) (hr:RowsLit w.params es.toList kvs) (nd:(kvs.map (·.1)).Nodup) (hz:kvs.length ≤ 1000):RDs K mg w N kvs:=by
 obtain ⟨vs,a1,a2,a3,a4⟩:=rows_lit hr
 refine ⟨a,vs,hm,hs,by rw [sizeLine_eq]; omega,a1,fun prog h hK => ⟨_,es,n,hK _ _ hl,⟨rfl,rfl,rfl⟩,rfl,?_,a2 prog,?_⟩⟩
 ·intro e he
  obtain ⟨x,t,h1,h2⟩:=a4 e (Array.mem_toList_iff.mpr he)
  exact ⟨.inr x,by rw [h1]; exact kV_is (k:=.inr x) ⟨t,rfl⟩,by rw [h2]; rfl⟩
 ·rw [a3]
  have:kvs.map (fun q => (.inr q.1:Key)) = (kvs.map (·.1)).map .inr:=by simp
  rw [this]
  exact List.pairwise_map.mpr (nd.imp fun h e => h (by injection e))
section
variable {X:Cx} {W:WX} {e:Expr} {m:EM PV} {N:Str} {kvs:List (Str × Int)} {p p2 pos:Pos}
def rdInO (kvs:List (Str × Int)):PV→Sto→Out PV:=fun v S => match v with | .str x => .ok (.bl (kvs.any fun q => decide (q.1 = x))) S | _ => .bad
def rdInM (kvs:List (Str × Int)) (m:EM PV):EM PV:=fun τ S => bnd (m τ S) (rdInO kvs)
theorem pc_rdin {ty:TE} (k:RDs X.K X.mg X.w N kvs) (hg:Gl X N) (hi:PE X e ty) (hd:(N == ("__debug__" : Str)) = false:=by decide):PC X .In e (.Name N p) (fun σ H Q => ty σ H fun y H1 => ∃ x,y = .str x∧Q (.bl (kvs.any fun q => decide (q.1 = x))) H1):=by
 obtain ⟨a,vs,hN,hs,hz,rel,hD⟩:=k.ex
 refine ⟨fun pins s σ H Q I h => ?_⟩
 refine thn (hi.run pins s σ H _ I h) fun iv s1 ⟨y,H1,I1,ry,x,ey,q1⟩ => ?_
 refine thn ((pe_glob (v:=.ref a) (pos:=p) hg hN rfl hd).run pins s1 σ H1 (fun v H2 => v = .ref a∧H2 = H1) I1 ⟨rfl,rfl⟩) fun u s2 ⟨z,H2,I2,rz,ez,eH⟩ => ?_
 subst ez eH ey
 obtain rfl:u = Value.ref a:=rz
 have dd:=hD X.prog s2.heap I2.kIn
 refine wpAny_in_of (kV_is (k:=.inr x) ry) hs dd.mapOf ?_
 rw [← (rel.val (.inr x)).isSome_eq]
 have hb:(valV (rdK kvs) (.inr x)).isSome = kvs.any fun q => decide (q.1 = x):=by
  rw [← valV_any,rdK,List.any_map]
  congr 1
  funext q
  simp
 exact ⟨.bl (kvs.any fun q => decide (q.1 = x)),_,I2.tok _,by rw [hb]; rfl,q1⟩
theorem rdin_read (σ : L2.St) (H:Hp) (Q:VK) (h:gE X W (rV X) (rdInM kvs m) σ H Q):gE X W (rV X) m σ H (fun y H1 => ∃ x,y = .str x∧Q (.bl (kvs.any fun q => decide (q.1 = x))) H1):=by
 obtain ⟨ι,τ,S,r,ρ,pk⟩:=h
 refine ⟨ι,τ,S,r,ρ,pk.next.mono fun x H1 ⟨v,ι1,S1,e1,r1,q1,pk1⟩ => ?_⟩
 unfold rdInO at pk1
 split at pk1
 ·rename_i z
  exact ⟨z,q1,pk1 ι1 H1 _ .refl r1 rfl⟩
 ·exact pk1.elim
theorem re_rdIn (k:RDs X.K X.mg X.w N kvs) (hg:Gl X N) (he:RE X W e m) (hd:(N == ("__debug__" : Str)) = false:=by decide):RE X W (.Compare e [.In] [.Name N p] pos) (rdInM kvs m) :=
 ⟨pe_weak (pe_cmp (pc_rdin k hg he.pe hd)) rdin_read⟩
def rdCopyM (kvs:List (Str × Int)):EM PV:=fun _ S => .ok (.loc S.length) (S ++ [.dct (rdP kvs)])
theorem cr_rdict {a:Addr} {vs:List (Key × Value)} (hs:(a == sysModules) = false) (hz:kvs.length ≤ sizeLine) (rel:KV (rdK kvs) vs) (hD:∀ (prog:Program) (h:Heap),X.K.In h→h.DictOf (mixKind prog X.w) a vs) :
  CallR X (.type "dict") (fun us H Q => us = [.ref a]∧∀ p,H p = none→Q (.ref p) (upd H p (.dK (rdK kvs)))):=by
 intro pins s σ H xs us Q I rx ⟨e,q⟩
 subst e
 cases rx with
 | cons r1 r2 =>
 cases r2
 cases r1
 have hl:(rdK kvs).length ≤ sizeLine:=by unfold rdK; rw [List.length_map]; exact hz
 refine kt_call_dict hs (hD X.prog s.heap I.kIn) (by rw [← rel.length]; exact hl) fun h' dd' hs' => ?_
 refine ⟨.ref s.heap.objs.size,_,(I.laid (a:=s.heap.objs.size) (o:=.dK (rdK kvs)) (t':=s.toks) (fun b q hq => ?_) (Nat.le_refl _) (dk_new hl (beq_eq_false_iff_ne.mpr (Ne.symm (Nat.ne_of_lt I.big))) rel dd')),rfl,q _ (I.hok.fresh (Nat.le_refl _))⟩
 exact (hs'.2 b (Nat.ne_of_lt (Heap.lt_size hq))).trans (Heap.get?_push_of_some _ hq)
theorem rpf_rd {ι : List Addr} {H:Hp}:∀ kvs:List (Str × Int),RpF X.K ι H (rdP kvs) (rdK kvs)
 | [] => rfl
 | q :: kvs => ⟨.int q.2,rdK kvs,rfl,rfl,rpf_rd kvs⟩
theorem re_rdCopy {D:Str} (k:RDs X.K X.mg X.w N kvs) (hg:Gl X N) (hgD:Gl X D) (hmD:X.mg D = none) (hvD:bootBuiltins D = some (.type "dict")) (hd:(N == ("__debug__" : Str)) = false:=by decide) (hn:D ≠ "__name__" := by decide) (hdb:(D == ("__debug__" : Str)) = false:=by decide)
  (h1:starEach [.Name N p2] X.env = (false,eval (.Name N p2) X.env) :: starEach [] X.env:=by rfl) (h2:(backTo pos (starEach [] X.env)).any (·.1) = false:=by rfl):RE X W (.Call (.Name D p) [.Name N p2] [] pos) (rdCopyM kvs):=by
 obtain ⟨a,vs,hN,hs,hz,rel,hD⟩:=k.ex
 refine ⟨pe_weak (pe_callTy (cr_rdict hs hz rel hD) hgD hmD hvD (pa_cons (pe_glob (v:=.ref a) hg hN rfl hd) pa_nil h1) hn hdb h1 h2) fun σ H Q ⟨ι,τ,S,r,ρ,pk⟩ => ⟨rfl,fun p hp => ?_⟩⟩
 obtain ⟨E,r2,q2⟩:=r.new_dct hp (xs:=rdP kvs) (vs:=rdK kvs) (rpf_rd kvs)
 exact pk _ _ _ E r2 q2
end
@[simp] theorem e_rdInM (kvs:List (Str × Int)) (m:EM PV) (τ : En) (S:Sto):rdInM kvs m τ S = bnd (m τ S) (rdInO kvs):=rfl
@[simp] theorem e_rdInO (kvs:List (Str × Int)) (x:Str) (S:Sto):rdInO kvs (.str x) S = .ok (.bl (kvs.any fun q => decide (q.1 = x))) S:=rfl
theorem rdCopy_ap (kvs:List (Str × Int)) (τ : En) (S:Sto):rdCopyM kvs τ S = .ok (.loc S.length) (S ++ [.dct (rdP kvs)]):=rfl
end PL
set_option maxHeartbeats 4000000
namespace PLz
open PySem PySem.Spec PyProof.Rows L2
end PLz
namespace PL
open PySem PySem.Spec PyProof.Rows L2
end PL
namespace PLz
open PySem PySem.Spec PyProof.Rows L2
theorem laid_frz3 {X:Cx} {pins:List (Addr × Obj)} {σ : L2.St} {H:Hp} {s:Shared} {t':Nat} {a b c:Str} {t u v:Tok} {Q:VK} (I:Inv X pins σ H s) (h:∀ p,H p = none→NewT H p [.str a,.str b,.str c] (Q (.ref p))) :
  EP X pins σ Q (.ref s.heap.objs.size) { s with toks:=t',heap:=s.heap.push { cls:=.type "tuple",data:=.seq [Value.str a t,.str b u,.str c v].toArray } }:=by
 refine ⟨.ref s.heap.objs.size,_,I.laid (t':=t') (o:=.frz { cls:=.type "tuple",data:=.seq [Value.str a t,.str b u,.str c v].toArray } (.tup [.str a,.str b,.str c])) (fun b ob q => Heap.get?_push_of_some _ q) (Nat.le_refl _) ?_,rfl,h _ (I.hok.fresh (Nat.le_refl _)) _ rfl⟩
 exact ⟨Heap.get?_push_size _ rfl,by rw [sizeLine_eq]; simp,_,.cons ⟨_,rfl⟩ (.cons ⟨_,rfl⟩ (.cons ⟨_,rfl⟩ .nil)),IsTup.new _ _⟩
theorem mt_partZ {X:Cx}:MtR X "str.partition" (fun x xs H Q => ∃ a b,x = .str a∧xs = [.str b]∧(b.length == 0) = false∧a.length ≤ sizeLine ∧
  ∀ p,H p = none→NewT H p [.str (Txt.partition a b).1,.str (Txt.partition a b).2.1,.str (Txt.partition a b).2.2] (Q (.ref p))):=by
 intro pins s σ H x xs v us Q I rx rs h
 obtain ⟨a,b,rfl,rfl,hb,hz,h⟩:=h
 obtain ⟨t,rfl⟩:=rx
 cases rs with
 | cons r1 rs =>
  cases rs
  obtain ⟨u,rfl⟩:=r1
  refine call_meets F.slot_str_partition (typeIs_str _ _ _) F.entry_str_partition (F.args_str_partition_2 _ _) (meets_str_partition a b t u hb hz) ?_
  unfold Txt.partition at h
  revert h
  cases Builtin.Str.occurrences a b 0 a.length 1 with
  | nil => intro h; exact laid_frz3 I h
  | cons i r => intro h; exact laid_frz3 I h
end PLz
namespace PL
open PySem PySem.Spec PyProof.Rows L2
def partP (p:PV) (ps:List PV) (S:Sto):Option (PV × Sto):=match p,ps with
 | .str a,[.str b] => if (b.length == 0) = false∧a.length ≤ 16777216 then some (.tup [.str (Txt.partition a b).1,.str (Txt.partition a b).2.1,.str (Txt.partition a b).2.2],S) else none
 | _,_ => none
theorem om_partition {X:Cx}:MtR X "str.partition" (gMt X partP):=by
 intro pins s σ H x xs v us Q I rx rxs ⟨ι,S,p,ps,w,S',rs,rp,rps,hf,k⟩
 unfold partP at hf
 split at hf
 ·rename_i a b
  split at hf
  ·rename_i hl
   cases hf
   cases (show x = _ from rp)
   obtain ⟨y,rfl,h2⟩:=rpl1 rps
   cases (show y = _ from h2)
   refine PLz.mt_partZ pins s σ H _ _ v us Q I rx rxs ⟨a,b,rfl,rfl,hl.1,by rw [sizeLine_eq]; exact hl.2,fun p hp o ho => ?_⟩
   obtain ⟨E,r2⟩:=rs.tup (ho:=.frz o (.tup [.str (Txt.partition a b).1,.str (Txt.partition a b).2.1,.str (Txt.partition a b).2.2])) hp
   exact k _ _ _ E r2 ⟨p,_,rfl,.inl ⟨o,upd_same,ho⟩,_,_,rfl,rfl,_,_,rfl,rfl,_,_,rfl,rfl,rfl⟩
  ·cases hf
 ·cases hf
@[simp] theorem partP_ap (a b:Str) (S:Sto):partP (.str a) [.str b] S = if (b.length == 0) = false∧a.length ≤ 16777216 then some (.tup [.str (Txt.partition a b).1,.str (Txt.partition a b).2.1,.str (Txt.partition a b).2.2],S) else none:=rfl
end PL
namespace PL
open PySem PySem.Spec PyProof.Rows L2
section
variable {X:Cx}
def updP:OpM:=fun p ps S => match p,ps with
 | .loc l,[.loc k] => match S[l]?,S[k]? with
  | some (.dct kvs),some (.dct more) => if l ≠ k∧kvs.length + more.length ≤ 16777216 then some (.non,S.set l (.dct (mergeP kvs more))) else none
  | _,_ => none
 | _,_ => none
theorem mt_update {kvs more:List (Key × V)} {pins:List (Addr × Obj)} {s:Shared} {σ : L2.St} {H:Hp} {a b:Addr} {Q:Value→Shared→Prop} {A:Around} {E:Value→Shared→Prop} (I:Inv X pins σ H s) (ea:H a = some (.dK kvs)) (eb:H b = some (.dK more)) (hne:a ≠ b) (hz:kvs.length + more.length ≤ sizeLine)
  (h:∀ s',Inv X pins σ (upd H a (.dK (mergeK kvs more))) s'→Q .none s'):wpAny (model X.prog X.w) A (call (.builtin "dict.update") [.ref a,.ref b]) Q E s:=by
 obtain ⟨z1,hd1,vs1,rel1,dd1⟩:=dk_of I.hok ea
 obtain ⟨z2,hd2,vs2,rel2,dd2⟩:=dk_of I.hok eb
 refine call_meetsIn PySem.F.slot_dict_update dd1.typeIs PySem.F.entry_dict_update (PySem.F.args_dict_update_2 _ _) (meets_dict_update (mixKind X.prog X.w) a b hne hd2)
  ⟨vs1,vs2,dd1,dd2,by rw [← rel1.length,← rel2.length]; exact hz,fun h' dd' _ hs => h _ ?_⟩
 have he:∃ q,h'.get? a = some q:=let ⟨q,_,_,hq,_⟩:=dd'; ⟨q,hq⟩
 exact d_write (t':=s.toks) I (by rw [ea]; exact True.intro) hs he (dk_new (Nat.le_trans (length_mergeK _ _) hz) hd1 (rel2.merge rel1) dd')
theorem om_update:MtR X "dict.update" (gMt X updP):=by
 intro pins s σ H x xs v us Q I rx rxs ⟨ι,S,p,ps,w,S',rs,rp,rps,hf,k⟩
 unfold updP at hf
 split at hf
 ·split at hf
  ·rename_i l m _ _ kvs more eS eM
   split at hf
   ·rename_i hl
    cases hf
    obtain ⟨a,rfl,h1⟩:=rp
    obtain ⟨y,rfl,b,rfl,h2⟩:=rpl1 rps
    obtain ⟨vs,h3,h4⟩:=rs.obj _ a _ h1 eS
    obtain ⟨ws,h5,h6⟩:=rs.obj _ b _ h2 eM
    cases rx
    obtain ⟨u,rfl,r1⟩:=vals1 rxs
    cases r1
    have hne:a ≠ b:=fun e => hl.1 (by subst e; exact (List.getElem?_inj (List.getElem?_eq_some_iff.mp h1).1 rs.nd).mp (h1.trans h2.symm))
    refine mt_update I h3 h5 hne (by rw [← h4.length,← h6.length,sizeLine_eq]; exact hl.2) fun s' I' => ?_
    refine ⟨.non,_,I',rfl,?_⟩
    exact nones k (rs.wdct h1 (h6.merge h4))
   ·cases hf
  ·cases hf
 ·cases hf
end
@[simp] theorem updP_loc (l k:Nat) (S:Sto):updP (.loc l) [.loc k] S = match S[l]?,S[k]? with
  | some (.dct kvs),some (.dct more) => if l ≠ k∧kvs.length + more.length ≤ 16777216 then some (.non,S.set l (.dct (mergeP kvs more))) else none
  | _,_ => none:=rfl
end PL
set_option maxHeartbeats 4000000
namespace PLs
open PySem PySem.Spec PyProof.Rows L2 PySem.W
section
variable {P:Program} {w:World} {A:Around} {E:Value→Shared→Prop} {s:Shared}
theorem sorted_dictK {a:Addr} {vs:List (Key × Value)} {b:Bool} {Q:Value→Shared→Prop} (dd:s.heap.DictOf (mixKind P w) a vs) (lo:(a == sysModules) = false) (hz:vs.length ≤ sizeLine) (hh:A.handled = none) (ha:Alike b (vs.map (·.1)))
  (fin:∀ (h1 h':Heap) (tk:Nat) (d:Addr) (out:Array Value) (c:Nat),(∀ b o,s.heap.get? b = some o→h1.get? b = some o)→(∀ b o,h1.get? b = some o→h'.get? b = some o)→h1.objs.size ≤ d →
   h'.get? d = some (seqObj "list" out c)→(∀ v ∈ out.toList,keyIs (kO v) v = true)→(out.toList.map kO).Perm (vs.map (·.1))→AscK (out.toList.map kO)→Q (.ref d) { s with heap:=h',toks:=tk }) :
  wpAny (model P w) A (call (.builtin "sorted") [.ref a]) Q E s:=by
 obtain ⟨o,es,ep,h1,h2,h3,h4,h5,h6⟩:=dd
 have dat:s.heap.DictAt (mixKind P w) a vs ep:=⟨o,es,h1,h2,h3,h4,h5,h6⟩
 refine Calls.call_function_entry kind_sorted plain_sorted entry_sorted (args_sorted1 _) ?_
 unfold Builtin.«sorted»
 refine wpAny_bind (m:=checkCount "sorted" 1 1 _) (wpAny_pure ?_)
 refine wpAny_bind (kdu_collect (A:=A.in1) (kdl_dict lo) hh dat hz fun h1 tk acc k1 hacc => ?_)
 have len:acc.toList.length = vs.length:=by rw [Array.length_toList]; exact hacc.1
 have at_:∀ (j:Nat) (v:Value),acc.toList[j]? = some v→∃ k x,vs[j]? = some (k,x)∧keyIs k v = true:=fun j v e => hacc.2 j v (by rw [← Array.getElem?_toList]; exact e)
 have vk:∀ v ∈ acc.toList,keyIs (kO v) v = true:=fun v hv => by
  obtain ⟨j,hj⟩:=List.mem_iff_getElem?.mp hv
  obtain ⟨k,x,_,q⟩:=at_ j v hj
  rw [kO_of q]; exact q
 have mk:acc.toList.map kO = vs.map (·.1):=by
  refine List.ext_getElem? fun j => ?_
  rw [List.getElem?_map,List.getElem?_map]
  cases e:acc.toList[j]? with
  | none =>
   have:vs[j]? = none:=by
    rw [List.getElem?_eq_none_iff] at e ⊢; omega
   rw [this]; rfl
  | some v =>
   obtain ⟨k,x,q1,q2⟩:=at_ j v e
   rw [q1]
   show some (kO v) = some k
   rw [kO_of q2]
 refine wpAny_bind (wpAny_newList ?_ (by rw [len]; exact hz))
 have oL:(h1.push (seqObj "list" acc.toList.toArray 0)).get? h1.objs.size = some (seqObj "list" acc.toList.toArray 0):=Heap.get?_push_size _ rfl
 refine wpAny_bind (wpAny_holding (wpAny_call_entry slot_list_sort ⟨_,oL,rfl⟩ entry_list_sort (list_sortV (s:={ s with heap:=h1.push (seqObj "list" acc.toList.toArray 0),toks:=tk }) oL vk (b:=b) (fun k hk => ha k (by rw [← mk]; exact hk)) (by rw [len]; exact hz) fun out c1 c2 c3 => ⟨_,rfl,?_⟩) (args_list_sort _)))
 obtain ⟨c,hc2⟩:=sortedHeap_at (vs:=acc.toList) (out:=out) oL
 refine wpAny_pure ⟨_,rfl,fin h1 _ tk h1.objs.size out c k1 (fun b u q => ?_) (Nat.le_refl _) hc2 c1 (by rw [← mk]; exact c2) c3⟩
 show (sortedHeap (h1.push (seqObj "list" acc.toList.toArray 0)) h1.objs.size acc.toList out).get? b = some u
 rw [sortedHeap_old (Nat.ne_of_lt (Heap.lt_size q)) (by rw [size_push']; exact Nat.lt_succ_of_lt (Heap.lt_size q))]
 exact Heap.get?_push_of_some _ q
end
section
variable {X:Cx}
def rSortedDK (w:World):List V→Hp→VK→Prop:=fun vs H Q => ∃ (a:Addr) (ws:List (Key × V)) (b:Bool),vs = [V.ref a]∧H a = some (.dK ws)∧Alike b (ws.map (·.1)) ∧
 ∀ (L':List Key) (p:Addr),L'.Perm (ws.map (·.1))→L'.Nodup→AscK L'→H p = none→Q (.ref p) (upd H p (.lst (L'.map kV)))
theorem cr_sortedDK (hc:X.calm = true):CallR X (.builtin "sorted") (rSortedDK X.w):=by
 intro pins s σ H vs us Q I r h
 obtain ⟨a,ws,b,rfl,ha,hb,q⟩:=h
 obtain ⟨z,hd,kvs,rel,dd⟩:=dk_of I.hok ha
 rw [Vals.ref1 r]
 have ek:ws.map (·.1) = kvs.map (·.1):=rel.keys
 have nd:(kvs.map (·.1)).Nodup:=by obtain ⟨_,_,_,_,_,_,_,_,n⟩:=dd; exact n
 refine sorted_dictK dd hd (by rw [← rel.length]; exact z) (I.ok.hd hc) (b:=b) (by rw [← ek]; exact hb) fun h1 h' tk d out c k1 k2 hp hg hk pm asc => ?_
 have I1:Inv X pins σ H { s with heap:=h1,toks:=tk }:=I.kept (t':=tk) k1
 have hn:H d = none:=I1.hok.fresh hp
 have hlen:((out.toList.map kO).map kV).length ≤ sizeLine:=by rw [List.length_map,pm.length_eq,List.length_map,← rel.length]; exact z
 have J:Inv X pins σ (upd H d (.lst ((out.toList.map kO).map kV))) { s with heap:=h',toks:=tk }:=I1.laid (t':=tk) k2 hp ⟨hlen,out.toList,c,keys_vals hk,hg⟩
 exact ⟨.ref d,_,J,rfl,q _ d (by rw [ek]; exact pm) (pm.nodup_iff.mpr nd) asc hn⟩
end
end PLs
namespace PL
open PySem PySem.Spec PyProof.Rows L2 PLs
noncomputable def sortDkO:PV→Sto→Out PV:=open Classical in fun p S => match p with
 | .loc l => (match S[l]? with
  | some (.dct kvs) => if ∃ b,Alike b (kvs.map (·.1)) then .ok (.loc S.length) (S ++ [.lst ((sortK (kvs.map (·.1))).map kP)]) else .bad
  | _ => .bad)
 | _ => .bad
noncomputable def sortDkM (m:EM PV):EM PV:=fun τ S => bnd (m τ S) sortDkO
section
variable {X:Cx} {W:WX} {a:Expr} {ma:EM PV} {p pos:Pos}
theorem rpf_keys {K:PySem.W.Frag} {ι : List Addr} {H:Hp}:∀ {kvs:List (Key × PV)} {ws:List (Key × V)},RpF K ι H kvs ws→ws.map (·.1) = kvs.map (·.1)
 | [],ws,h => by cases (show ws = [] from h); rfl
 | q :: kvs,ws,h => by
  obtain ⟨v,r,rfl,h1,h2⟩:=h
  simp [rpf_keys h2]
theorem re_sortDk (hc:X.calm = true) (hg:Gl X "sorted") (hm:X.mg "sorted" = none) (ha:RE X W a ma)
  (na:starEach [a] X.env = (false,eval a X.env) :: starEach [] X.env:=by rfl):RE X W (.Call (.Name "sorted" p) [a] [] pos) (sortDkM ma):=by
 refine ⟨pe_weak (pe_callB (cr_sortedDK hc) hg hm (by decide +kernel) (pa_cons ha.pe pa_nil na) (he:=na)) fun σ H Q ⟨ι,τ,S,r,ρ,pk⟩ => ⟨ι,τ,S,r,ρ,pk.next.mono fun x H1 ⟨v,ι1,S1,e1,r1,q1,pk1⟩ => ?_⟩⟩
 unfold sortDkO at pk1
 split at pk1
 ·rename_i l
  split at pk1
  ·rename_i kvs hl
   split at pk1
   ·rename_i ok
    obtain ⟨b,hb⟩:=ok
    obtain ⟨ad,rfl,hι⟩:=q1
    obtain ⟨ws,hv,rl⟩:=r1.obj l ad _ hι hl
    have ek:=rpf_keys rl
    refine ⟨ad,ws,b,rfl,hv,by rw [ek]; exact hb,fun L' pa pm nd asc hpa => ?_⟩
    obtain ⟨E3,r3,q3⟩:=r1.new_lst hpa (rpl_of_kV L')
    have e5:L' = sortK (kvs.map (·.1)):=sortK_uniq asc nd fun x => by rw [pm.mem_iff,ek]
    subst e5
    exact pk1 _ _ _ E3 r3 q3
   ·exact pk1.elim
  ·exact pk1.elim
 ·exact pk1.elim
end
@[simp] theorem e_sortDkM (m:EM PV) (τ : En) (S:Sto):sortDkM m τ S = bnd (m τ S) sortDkO:=rfl
section
variable {P:PV→Sto→Prop} {R:Str→PV→Sto→Prop} {S:Sto} {l:Nat}
theorem sortDk_wp {kvs:List (Key × PV)} (h:S[l]? = some (.dct kvs)) {b:Bool} (ok:Alike b (kvs.map (·.1))) (k:∀ n S',S'[n]? = some (.lst ((sortK (kvs.map (·.1))).map kP))→Keep [] S S'→S.length ≤ n→P (.loc n) S'):wp (sortDkO (.loc l) S) P R:=by
 have:∃ b,Alike b (kvs.map (·.1)):=⟨b,ok⟩
 simp only [sortDkO,h,this,if_true,wp_ok]
 exact alloc_wp k
end
end PL
namespace PL
open PySem PySem.Spec PyProof.Rows L2
section
variable {X:Cx} {W:WX} {pos:Pos}
theorem re_call0 {x:Str} {p:Pos} {k:Nat} {F:FM} {f:Addr} {fd:FuncData} {ps:List Str} (G:FnOk X.prog X.w X.K X.mg X.base (L2.CX X.prog X.w) k f fd ps (spD X.prog X.w X.K X.mg 0 F)) (hr:Room k X.A) (hg:Gl X x) (hm:X.mg x = some (.ref f)) (hk:PySem.W.keepIn X.K (.ref f) = true) (hb:Binds X.K fd ps [])
  (tk:Takes X W) (hdb:(x == ("__debug__" : Str)) = false:=by decide):RE X W (.Call (.Name x p) [] [] pos) (callD F aN):=by
 have pe:PE X (.Call (.Name x p) [] [] pos) (tCallSD (spD X.prog X.w X.K X.mg 0 F) [] (WE W) tNil):=by
  refine ⟨fun pins s σ H Q I h => ?_⟩
  refine wpAny_Call_Name_kw (ld_glob I hg hm ?_ hdb)
  exact PySem.W.callWith_K0 I.kIn hk (run_fnSD (us:=[]) G hr hb .nil (passAt tk σ) I .nil h)
 refine ⟨pe_weak pe fun σ H Q h => ?_⟩
 obtain ⟨ι,τ,S,r,ρ,pk⟩:=h
 unfold callD at pk
 show spD X.prog X.w X.K X.mg 0 F ([] ++ []) H Q (WE W σ)
 exact call_wish (ps:=[]) (vs:=[]) r rfl rfl pk
end
end PL
namespace PL
open PySem PySem.Spec PyProof.Rows L2
def noneInTP:Op2:=fun p q S => match p,q with
 | .non,.tup xs => (nonsP xs).map fun b => (.bl b,S)
 | _,_ => none
section
variable {X:Cx}
theorem og_noneInT (hu:X.A.units + 65 < cLine):OpR X (compareOp .In) (gOp X noneInTP):=by
 intro pins s σ H x y v u Q I rx ry ⟨ι,S,p,q,z,S',rs,rp,rq,hf,k⟩
 unfold noneInTP at hf
 split at hf
 ·rename_i xs
  simp only [Option.map_eq_some_iff,Prod.mk.injEq] at hf
  obtain ⟨b,hb,rfl,rfl⟩:=hf
  cases (show x = .non from rp)
  obtain ⟨a,vs,rfl,h1,h2⟩:=rq
  cases rx
  cases ry
  obtain ⟨its,rv,ht,_⟩:=I.tuple h1.seq
  have hu1:X.A.in1.units < cLine:=by show X.A.units + 1 < cLine; omega
  obtain ⟨e1,e2⟩:=nons_at I hu1 hb h2 rv
  refine SeqAt.in_tupleAt nonHit ht (fun w hw => e2 w (by simpa using hw)) ⟨.bl _,H,I,rfl,?_⟩
  rw [show its.toArray.any nonHit = its.any nonHit by simp,e1]
  exact k ι H _ .refl rs rfl
 ·cases hf
def eqUnitP:Op2:=fun p q S => match p,q with
 | .tup xs,.tup [] => some (.bl xs.isEmpty,S)
 | _,_ => none
theorem og_eqUnit (hu:X.A.units + 64 < cLine):OpR X (compareOp .Eq) (gOp X eqUnitP):=by
 intro pins s σ H x y v u Q I rx ry ⟨ι,S,p,q,z,S',rs,rp,rq,hf,k⟩
 unfold eqUnitP at hf
 split at hf
 ·rename_i xs
  cases hf
  obtain ⟨a,vs,rfl,h1,h2⟩:=rp
  obtain ⟨b,ws,rfl,h3,h4⟩:=rq
  cases (show ws = [] from h4)
  cases rx
  cases ry
  obtain ⟨its,r1,t1,_⟩:=I.tuple h1.seq
  obtain ⟨jts,r2,t2,_⟩:=I.tuple h3.seq
  cases r2
  have hlen:=h2.length
  have hl2:=r1.length
  have fin:=k ι H (.bl xs.isEmpty) .refl rs rfl
  refine SeqAt.eq_tupleAt (e:=fun _ => true) t1 t2 (by omega) (fun j _ h => absurd h (by simp)) ⟨.bl xs.isEmpty,H,I,?_,fin⟩
  cases xs with
  | nil =>
   have:its = []:=List.length_eq_zero_iff.mp (by simp at hlen; omega)
   subst this
   rfl
  | cons x xs =>
   have hn:its.length ≠ 0:=by simp at hlen; omega
   cases its with
   | nil => simp at hn
   | cons i its => rfl
 ·cases hf
end
@[simp] theorem eqUnitP_ap (xs:List PV) (S:Sto):eqUnitP (.tup xs) (.tup []) S = some (.bl xs.isEmpty,S):=rfl
@[simp] theorem noneInTP_ap (xs:List PV) (S:Sto):noneInTP .non (.tup xs) S = (nonsP xs).map fun b => (.bl b,S):=rfl
end PL
namespace K59
open PySem PySem.Spec PyProof.Rows L2 PL
def topS (i:Nat):Stmt:=PySem.Challenge.pw_codeasks_k59_rules_written_and_read.main.body.getD i (.Pass ⟨0,0,0,0⟩)
theorem sc_q15:FnScope ["term", "word", "worth"] ["term"] (defScope (topS 1)):=⟨rfl,rfl,rfl,by decide +kernel,rfl,by decide +kernel,by decide +kernel⟩
theorem sc_q20:FnScope ["relation", "terms", "term"] ["relation", "terms"] (defScope (topS 2)):=⟨rfl,rfl,rfl,by decide +kernel,rfl,by decide +kernel,by decide +kernel⟩
theorem sc_q5:FnScope ["literal", "relation", "terms", "truth"] ["literal"] (defScope (topS 3)):=⟨rfl,rfl,rfl,by decide +kernel,rfl,by decide +kernel,by decide +kernel⟩
theorem sc_q23:FnScope ["rule", "head", "body", "relation", "terms", "literal"] ["rule"] (defScope (topS 4)):=⟨rfl,rfl,rfl,by decide +kernel,rfl,by decide +kernel,by decide +kernel⟩
theorem sc_q13:FnScope ["rules", "rule"] ["rules"] (defScope (topS 5)):=⟨rfl,rfl,rfl,by decide +kernel,rfl,by decide +kernel,by decide +kernel⟩
theorem sc_q32:FnScope ["text", "letter"] ["text"] (defScope (topS 13)):=⟨rfl,rfl,rfl,by decide +kernel,rfl,by decide +kernel,by decide +kernel⟩
theorem sc_q27:FnScope ["rules", "head", "body"] ["rules"] (defScope (topS 17)):=⟨rfl,rfl,rfl,by decide +kernel,rfl,by decide +kernel,by decide +kernel⟩
theorem sc_q26:FnScope ["terms", "sort", "what"] ["terms"] (defScope (topS 18)):=⟨rfl,rfl,rfl,by decide +kernel,rfl,by decide +kernel,by decide +kernel⟩
theorem sc_q29:FnScope ["literal", "relation", "terms", "truth"] ["literal"] (defScope (topS 19)):=⟨rfl,rfl,rfl,by decide +kernel,rfl,by decide +kernel,by decide +kernel⟩
theorem sc_q30:FnScope ["rules", "rooms", "head", "body", "relation", "terms", "rest"] ["rules"] (defScope (topS 20)):=⟨rfl,rfl,rfl,by decide +kernel,rfl,by decide +kernel,by decide +kernel⟩
theorem sc_q24:FnScope ["rule", "known", "head", "body", "literal", "name", "part"] ["rule"] (defScope (topS 21)):=⟨rfl,rfl,rfl,by decide +kernel,rfl,by decide +kernel,by decide +kernel⟩
theorem sc_q28:FnScope ["rules", "heads", "found", "head", "body", "relation", "terms", "truth"] ["rules"] (defScope (topS 22)):=⟨rfl,rfl,rfl,by decide +kernel,rfl,by decide +kernel,by decide +kernel⟩
theorem sc_q4:FnScope ["links", "relation", "found", "waiting", "here", "one", "other", "is_not"] ["links", "relation"] (defScope (topS 23)):=⟨rfl,rfl,rfl,by decide +kernel,rfl,by decide +kernel,by decide +kernel⟩
theorem sc_q35:FnScope ["rules", "links", "rule", "head", "body", "one", "other", "is_not"] ["rules"] (defScope (topS 24)):=⟨rfl,rfl,rfl,by decide +kernel,rfl,by decide +kernel,by decide +kernel⟩
theorem sc_q25:FnScope ["text", "figures", "sign"] ["text"] (defScope (topS 30)):=⟨rfl,rfl,rfl,by decide +kernel,rfl,by decide +kernel,by decide +kernel⟩
theorem sc_q33:FnScope ["word", "inner", "number", "sign"] ["word"] (defScope (topS 31)):=⟨rfl,rfl,rfl,by decide +kernel,rfl,by decide +kernel,by decide +kernel⟩
theorem sc_q31:FnScope ["words", "terms", "word"] ["words"] (defScope (topS 32)):=⟨rfl,rfl,rfl,by decide +kernel,rfl,by decide +kernel,by decide +kernel⟩
theorem sc_q12:FnScope ["text", "words", "truth", "atom"] ["text"] (defScope (topS 33)):=⟨rfl,rfl,rfl,by decide +kernel,rfl,by decide +kernel,by decide +kernel⟩
theorem sc_q34:FnScope ["text", "head", "body", "ahead", "amid", "behind", "part"] ["text"] (defScope (topS 34)):=⟨rfl,rfl,rfl,by decide +kernel,rfl,by decide +kernel,by decide +kernel⟩
theorem sc_q7:FnScope ["text", "rules", "part"] ["text"] (defScope (topS 35)):=⟨rfl,rfl,rfl,by decide +kernel,rfl,by decide +kernel,by decide +kernel⟩
theorem sc_q21:FnScope ["_law_script", "_law_fold", "_law_great_here", "_law_cell", "_law_much"] ["_law_script"] (defScope (topS 37)):=⟨rfl,rfl,rfl,by decide +kernel,rfl,by decide +kernel,by decide +kernel⟩
theorem sc_q16:FnScope ["_law_tray_here", "_law_many", "_law_mixed", "_law_found"] ["_law_tray_here", "_law_many"] (defScope (topS 38)):=⟨rfl,rfl,rfl,by decide +kernel,rfl,by decide +kernel,by decide +kernel⟩
theorem sc_q9:FnScope ["_law_tray_here", "_law_found", "_law_k"] ["_law_tray_here"] (defScope (topS 39)):=⟨rfl,rfl,rfl,by decide +kernel,rfl,by decide +kernel,by decide +kernel⟩
theorem sc_q10:FnScope ["_law_found", "_law_due", "_law_k"] ["_law_found", "_law_due"] (defScope (topS 40)):=⟨rfl,rfl,rfl,by decide +kernel,rfl,by decide +kernel,by decide +kernel⟩
theorem sc_q19:FnScope ["_law_tray_here", "_law_used", "_law_letters", "_law_lot", "_law_letter", "_law_name_here", "_law_some", "_law_bars", "_law_words", "_law_old", "_law_at", "_law_k", "_law_one"] ["_law_tray_here", "_law_used"] (defScope (topS 41)):=⟨rfl,rfl,rfl,by decide +kernel,rfl,by decide +kernel,by decide +kernel⟩
theorem sc_q8:FnScope ["_law_tray_here", "_law_many", "_law_used", "_law_found", "_law_k"] ["_law_tray_here", "_law_many", "_law_used"] (defScope (topS 42)):=⟨rfl,rfl,rfl,by decide +kernel,rfl,by decide +kernel,by decide +kernel⟩
theorem sc_q14:FnScope ["_law_tray_here"] ["_law_tray_here"] (defScope (topS 43)):=⟨rfl,rfl,rfl,by decide +kernel,rfl,by decide +kernel,by decide +kernel⟩
theorem sc_q6:FnScope ["_law_found"] [] (defScope (topS 44)):=⟨rfl,rfl,rfl,by decide +kernel,rfl,by decide +kernel,by decide +kernel⟩
theorem sc_q17:FnScope ["_law_tray_here", "_law_some", "_law_names_here"] ["_law_tray_here", "_law_some", "_law_names_here"] (defScope (topS 45)):=⟨rfl,rfl,rfl,by decide +kernel,rfl,by decide +kernel,by decide +kernel⟩
theorem sc_q2:FnScope ["_law_tray_here", "_law_found"] ["_law_tray_here"] (defScope (topS 46)):=⟨rfl,rfl,rfl,by decide +kernel,rfl,by decide +kernel,by decide +kernel⟩
theorem sc_q18:FnScope ["_law_tray_here", "_law_letters", "_law_size", "_law_k"] ["_law_tray_here"] (defScope (topS 47)):=⟨rfl,rfl,rfl,by decide +kernel,rfl,by decide +kernel,by decide +kernel⟩
theorem sc_q22:FnScope ["_law_tray_here", "_law_heads", "_law_at", "_law_names_here", "_law_some", "_law_words", "_law_free", "_law_body", "_law_terms", "_law_mine", "_law_k", "_law_bound", "_law_word", "_law_many", "_law_given", "_law_pair", "_law_j", "_law_term_here", "_law_one"] ["_law_tray_here", "_law_heads", "_law_at", "_law_names_here"] (defScope (topS 48)):=⟨rfl,rfl,rfl,by decide +kernel,rfl,by decide +kernel,by decide +kernel⟩
theorem sc_q11:FnScope ["_law_tray_here", "_law_names_here", "_law_bars", "_law_heads", "_law_name_here", "_law_found", "_law_k", "_law_at"] ["_law_tray_here", "_law_names_here"] (defScope (topS 49)):=⟨rfl,rfl,rfl,by decide +kernel,rfl,by decide +kernel,by decide +kernel⟩
theorem sc_q3:FnScope ["_law_term_here"] ["_law_term_here"] (defScope (topS 50)):=⟨rfl,rfl,rfl,by decide +kernel,rfl,by decide +kernel,by decide +kernel⟩
theorem sc_q1:FnScope ["_law_word", "_law_terms", "_law_term_here"] ["_law_word", "_law_terms"] (defScope (topS 51)):=⟨rfl,rfl,rfl,by decide +kernel,rfl,by decide +kernel,by decide +kernel⟩
theorem sc_q0:FnScope ["_law_lots", "_law_found", "_law_head", "_law_body", "_law_some", "_law_tail", "_law_word", "_law_terms", "_law_truth"] ["_law_lots"] (defScope (topS 52)):=⟨rfl,rfl,rfl,by decide +kernel,rfl,by decide +kernel,by decide +kernel⟩
theorem sc_law:FnScope ["_law_script", "_law_tray_here", "_law_k", "_law_names_here", "_law_some", "_law_due", "_law_head", "_law_words", "_law_one", "_law_literal"] ["_law_script"] (defScope (topS 53)):=⟨rfl,rfl,rfl,by decide +kernel,rfl,by decide +kernel,by decide +kernel⟩
theorem sc_einit:FnScope ["self", "what"] ["self", "what"] (defScope (inClass (topS 7) 0)):=⟨rfl,rfl,rfl,by decide +kernel,rfl,by decide +kernel,by decide +kernel⟩
theorem bo_einit:defBody (inClass (topS 7) 0) = [.Assign [.Attribute (.Name "self" ⟨24,8,24,12⟩) "what" ⟨24,8,24,17⟩] (.Name "what" ⟨24,20,24,24⟩) ⟨24,8,24,24⟩]:=rfl
theorem kbrel_read_rules_0_text {vs:List V} {us:List Value} {zs:List V} {ws:List Value} (h:Vals vs us) (h':Vals zs ws):Vals ((fun (us ws:List V) => match us,ws with | [],[x0] => [x0] | _,_ => []) vs zs) ((fun (us ws:List Value) => match us,ws with | [],[x0] => [x0] | _,_ => []) us ws):=by
 cases h with
 | cons _ _ => exact .nil
 | nil =>
  cases h' with
  | nil => exact .nil
  | cons hx0 tx0 =>
   cases tx0 with
   | cons _ _ => exact .nil
   | nil =>
    exact (.cons hx0 .nil)
theorem kbgp_read_rules_0_text {K:PySem.W.Frag}:∀ (ι : List Addr) (H:Hp) (qs:List PV) (zs:List V),qs.length = 1→RpL K ι H qs zs→RpL K ι H ((fun (qs:List PV) => match qs with | [x0] => [x0] | _ => []) qs) ((fun (us ws:List V) => match us,ws with | [],[x0] => [x0] | _,_ => []) [] zs)∧((fun (qs:List PV) => match qs with | [x0] => [x0] | _ => []) qs).length = 1:=by
 intro ι H qs zs hl h
 match qs,hl with
 | [x0],_ =>
  obtain ⟨_,_,rfl,hx0,h⟩:=h
  cases (show _ = [] from h)
  exact ⟨⟨_,_,rfl,hx0,rfl⟩,rfl⟩
theorem kbrel_show_rules_0_rules {vs:List V} {us:List Value} {zs:List V} {ws:List Value} (h:Vals vs us) (h':Vals zs ws):Vals ((fun (us ws:List V) => match us,ws with | [],[x0] => [x0] | _,_ => []) vs zs) ((fun (us ws:List Value) => match us,ws with | [],[x0] => [x0] | _,_ => []) us ws):=by
 cases h with
 | cons _ _ => exact .nil
 | nil =>
  cases h' with
  | nil => exact .nil
  | cons hx0 tx0 =>
   cases tx0 with
   | cons _ _ => exact .nil
   | nil =>
    exact (.cons hx0 .nil)
theorem kbgp_show_rules_0_rules {K:PySem.W.Frag}:∀ (ι : List Addr) (H:Hp) (qs:List PV) (zs:List V),qs.length = 1→RpL K ι H qs zs→RpL K ι H ((fun (qs:List PV) => match qs with | [x0] => [x0] | _ => []) qs) ((fun (us ws:List V) => match us,ws with | [],[x0] => [x0] | _,_ => []) [] zs)∧((fun (qs:List PV) => match qs with | [x0] => [x0] | _ => []) qs).length = 1:=by
 intro ι H qs zs hl h
 match qs,hl with
 | [x0],_ =>
  obtain ⟨_,_,rfl,hx0,h⟩:=h
  cases (show _ = [] from h)
  exact ⟨⟨_,_,rfl,hx0,rfl⟩,rfl⟩
def rs_ROOMS:List (Str × Int):=[("sets",3),("copies",3),("adds",3),("reads",2),("cleans",3),("calls",3),("hands",4),("takes",3),("sends",3),("gives",3),("asks",3),("next",3),("same",2)]
set_option genInjectivity false in
set_option genSizeOf false in
set_option genSizeOfSpec false in
structure Tx (K:PySem.W.Frag) (mg:Str→Option Value) (w:World) where
 t_q15:DG K mg "show_term" (topS 1) ["term"]
 t_q20:DG K mg "show_atom" (topS 2) ["relation", "terms"]
 t_q5:DG K mg "show_literal" (topS 3) ["literal"]
 t_q23:DG K mg "show_rule" (topS 4) ["rule"]
 t_q13:DG K mg "show_rules" (topS 5) ["rules"]
 t_q32:DG K mg "is_name" (topS 13) ["text"]
 t_q27:DG K mg "heads_of" (topS 17) ["rules"]
 t_q26:DG K mg "names_of" (topS 18) ["terms"]
 t_q29:DG K mg "is_asked" (topS 19) ["literal"]
 t_q30:DG K mg "is_many" (topS 20) ["rules"]
 t_q24:DG K mg "is_loose" (topS 21) ["rule"]
 t_q28:DG K mg "links_of" (topS 22) ["rules"]
 t_q4:DG K mg "reached_from" (topS 23) ["links", "relation"]
 t_q35:DG K mg "look" (topS 24) ["rules"]
 t_q25:DG K mg "whole_in" (topS 30) ["text"]
 t_q33:DG K mg "term_in" (topS 31) ["word"]
 t_q31:DG K mg "atom_in" (topS 32) ["words"]
 t_q12:DG K mg "literal_in" (topS 33) ["text"]
 t_q34:DG K mg "rule_in" (topS 34) ["text"]
 t_q7:DG K mg "read_rules" (topS 35) ["text"]
 t_q21:DG K mg "_law_tray" (topS 37) ["_law_script"]
 t_q16:DG K mg "_law_draw" (topS 38) ["_law_tray_here", "_law_many"]
 t_q9:DG K mg "_law_great" (topS 39) ["_law_tray_here"]
 t_q10:DG K mg "_law_alike" (topS 40) ["_law_found", "_law_due"]
 t_q19:DG K mg "_law_name" (topS 41) ["_law_tray_here", "_law_used"]
 t_q8:DG K mg "_law_names" (topS 42) ["_law_tray_here", "_law_many", "_law_used"]
 t_q14:DG K mg "_law_whole" (topS 43) ["_law_tray_here"]
 t_q6:DG K mg "_law_tables" (topS 44) []
 t_q17:DG K mg "_law_term" (topS 45) ["_law_tray_here", "_law_some", "_law_names_here"]
 t_q2:DG K mg "_law_free_names" (topS 46) ["_law_tray_here"]
 t_q18:DG K mg "_law_long" (topS 47) ["_law_tray_here"]
 t_q22:DG K mg "_law_rule" (topS 48) ["_law_tray_here", "_law_heads", "_law_at", "_law_names_here"]
 t_q11:DG K mg "_law_rules" (topS 49) ["_law_tray_here", "_law_names_here"]
 t_q3:DG K mg "_law_term_shown" (topS 50) ["_law_term_here"]
 t_q1:DG K mg "_law_atom_shown" (topS 51) ["_law_word", "_law_terms"]
 t_q0:DG K mg "_law_rules_shown" (topS 52) ["_law_lots"]
 t_law:DG K mg "law" (topS 53) ["_law_script"]
 k_LETTERS:Tok
 c_LETTERS:mg "LETTERS" = some (.str "abcdefghijklmnopqrstuvwxyz" k_LETTERS)
 k_MOST_LETTERS:Tok
 c_MOST_LETTERS:mg "MOST_LETTERS" = some (.int 8 k_MOST_LETTERS)
 k_SAME:Tok
 c_SAME:mg "SAME" = some (.str "same" k_SAME)
 k_FIGURES:Tok
 c_FIGURES:mg "FIGURES" = some (.str "0123456789" k_FIGURES)
 k_MOST_FIGURES:Tok
 c_MOST_FIGURES:mg "MOST_FIGURES" = some (.int 60 k_MOST_FIGURES)
 k_MOST_TEXT:Tok
 c_MOST_TEXT:mg "MOST_TEXT" = some (.int 12 k_MOST_TEXT)
 kt_NO_RELATIONS:KTp K mg "NO_RELATIONS" ["if", "not"]
 rd_ROOMS:RDs K mg w "ROOMS" rs_ROOMS
 f_einit:Addr
 d_einit:FuncData
 t_einit:Fun K "__init__" "AskError.__init__" (inClass (topS 7) 0) f_einit d_einit
 b_einit:Binds K d_einit ["self", "what"] []
 i_init:PySem.W.typeIn K (.ref f_einit) = some (.type "function")
 p_einit:Pos × Pos × Pos × Pos
 sc_einit:FnScope ["self", "what"] ["self", "what"] (defScope (inClass (topS 7) 0))
 bo_einit:defBody (inClass (topS 7) 0) = [.Assign [.Attribute (.Name "self" p_einit.1) "what" p_einit.2.1] (.Name "what" p_einit.2.2.1) p_einit.2.2.2]
 E_NoRules:Addr
 x_NoRules:ExT K mg "NoRules" E_NoRules f_einit
 E_NoText:Addr
 x_NoText:ExT K mg "NoText" E_NoText f_einit
 E_AskError:Addr
 x_AskError:ExT K mg "AskError" E_AskError f_einit
 ex_NoRules_NoRules:PySem.W.exmOne K (.ref E_NoRules) (.ref E_NoRules) = some true
 n_all:mg "all" = none
 n_any:mg "any" = none
 n_bool:mg "bool" = none
 n_dict:mg "dict" = none
 n_int:mg "int" = none
 n_isinstance:mg "isinstance" = none
 n_len:mg "len" = none
 n_list:mg "list" = none
 n_max:mg "max" = none
 n_range:mg "range" = none
 n_set:mg "set" = none
 n_sorted:mg "sorted" = none
 n_str:mg "str" = none
 n_tuple:mg "tuple" = none
 kf_read_rules_0_text:KBinds K t_q7.d ["text"] ["text"] (fun us ws => match us,ws with | [],[x0] => [x0] | _,_ => []) (fun us ws => match us,ws with | [],[x0] => [x0] | _,_ => [])
 kf_show_rules_0_rules:KBinds K t_q13.d ["rules"] ["rules"] (fun us ws => match us,ws with | [],[x0] => [x0] | _,_ => []) (fun us ws => match us,ws with | [],[x0] => [x0] | _,_ => [])
noncomputable def m_q15:FM:=callS 3
   (seqS (asgS (vV 0) (gT 2 (gsC (gN 1) (gsC (gN 2) gsN))))
   (seqS (ifS (blM (binM eqP (vV 1) (cV (.str "name")))) (retS (binM addP (cV (.str "?")) (vV 2))) nopS)
   (retS (ifM (truM (isiM "int" (vV 2))) (callM (on1 strTP) (aC (vV 2) aN)) (fsM [(cV (.str "'")),(fmtM (vV 2)),(cV (.str "'"))])))))
noncomputable def m_q20:FM:=callS 3
   (retS (mtM "str" joinP (cV (.str " ")) (aC (binM addP (lstM (aC (vV 0) aN)) (compM (seqM (vV 1)) (gN 2) yesM (callD m_q15 (aC (vV 2) aN)) [2])) aN)))
noncomputable def m_q5:FM:=callS 4
   (seqS (asgS (vV 0) (gT 3 (gsC (gN 1) (gsC (gN 2) (gsC (gN 3) gsN)))))
   (retS (ifM (truM (vV 3)) (callD m_q20 (aC (vV 1) (aC (vV 2) aN))) (binM addP (cV (.str "not ")) (callD m_q20 (aC (vV 1) (aC (vV 2) aN)))))))
noncomputable def m_q23:FM:=callS 6
   (seqS (asgS (vV 0) (gT 2 (gsC (gT 2 (gsC (gN 3) (gsC (gN 4) gsN))) (gsC (gN 2) gsN))))
   (seqS (asgS (callD m_q20 (aC (vV 3) (aC (vV 4) aN))) (gN 1))
   (seqS (ifS (blM (binM eqUnitP (vV 2) (tupM aN))) (retS (vV 1)) nopS)
   (retS (binM addP (binM addP (vV 1) (cV (.str " if "))) (mtM "str" joinP (cV (.str ", ")) (aC (compM (seqM (vV 2)) (gN 5) yesM (callD m_q5 (aC (vV 5) aN)) [5]) aN)))))))
noncomputable def m_q13:FM:=callS 2
   (retS (orTM (mtM "str" joinP (cV (.str "; ")) (aC (compM (seqM (vV 0)) (gN 1) yesM (callD m_q23 (aC (vV 1) aN)) [1]) aN)) (cV (.str "-"))))
noncomputable def m_q32:FM:=callS 2
   (retS (andV (chainM leP leP (cV (.int 1)) (callM (on1 lenP) (aC (vV 0) aN)) (cV (.int 8))) (callM (on1 allP) (aC (compM (seqM (vV 0)) (gN 1) yesM (binM inP (vV 1) (cV (.str "abcdefghijklmnopqrstuvwxyz"))) [1]) aN))))
noncomputable def m_q27:FM:=callS 3
   (retS (dcM (seqM (vV 0)) (gT 2 (gsC (gN 1) (gsC (gN 2) gsN))) yesM (binM getP (vV 1) (cV (.int 0))) (cV (.bl true)) [1,2]))
noncomputable def m_q26:FM:=callS 3
   (retS (compM (seqM (vV 0)) (gT 2 (gsC (gN 1) (gsC (gN 2) gsN))) (blM (binM eqP (vV 1) (cV (.str "name")))) (vV 2) [1,2]))
noncomputable def m_q29:FM:=callS 4
   (seqS (asgS (vV 0) (gT 3 (gsC (gN 1) (gsC (gN 2) (gsC (gN 3) gsN)))))
   (retS (andV (vV 3) (binM neP (vV 1) (cV (.str "same"))))))
noncomputable def m_q30:FM:=callS 7
   (seqS (asgS (rdCopyM rs_ROOMS) (gN 1))
   (seqS (forS (seqM (vV 0)) (gT 2 (gsC (gN 2) (gsC (gN 3) gsN))) (forSS (seqM (binM addP (tupM (aC (vV 2) aN)) (callM (on1 tupleP) (aC (vV 3) aN)))) 2 (gsC (gN 4) (gsC (gN 5) (gsC (gN 6) gsN))) (ifS (blM (binM neP (m2M setdefP (vV 1) (vV 4) (callM (on1 lenP) (aC (vV 5) aN))) (callM (on1 lenP) (aC (vV 5) aN)))) (retS (cV (.bl true))) nopS)))
   (retS (cV (.bl false)))))
noncomputable def m_q24:FM:=callS 7
   (seqS (asgS (vV 0) (gT 2 (gsC (gN 2) (gsC (gN 3) gsN))))
   (seqS (asgS (dc2M (seqM (vV 3)) (gN 4) (truM (callD m_q29 (aC (vV 4) aN))) (seqM (callD m_q26 (aC (binM getP (vV 4) (cV (.int 1))) aN))) (gN 5) (vV 5) (cV (.bl true)) [4,5] [5]) (gN 1))
   (retS (notV (callM (on1 allP) (aC (comp2M (seqM (binM addP (tupM (aC (vV 2) aN)) (callM (on1 tupleP) (aC (vV 3) aN)))) (gN 6) yesM (seqM (callD m_q26 (aC (binM getP (vV 6) (cV (.int 1))) aN))) (gN 5) yesM (binM inP (vV 5) (vV 1)) [6,5] [5]) aN))))))
noncomputable def m_q28:FM:=callS 8
   (seqS (asgS (callD m_q27 (aC (vV 0) aN)) (gN 1))
   (seqS (asgS (lstM aN) (gN 2))
   (seqS (forS (seqM (vV 0)) (gT 2 (gsC (gN 3) (gsC (gN 4) gsN))) (exprS (mtM "list" extendP (vV 2) (aC (compM (seqM (vV 4)) (gT 3 (gsC (gN 5) (gsC (gN 6) (gsC (gN 7) gsN)))) (blM (binM inP (vV 5) (vV 1))) (tupM (aC (binM getP (vV 3) (cV (.int 0))) (aC (vV 5) (aC (notV (vV 7)) aN)))) [5,6,7]) aN))))
   (retS (vV 2)))))
noncomputable def m_q4:FM:=callS 8
   (seqS (asgS (dispM (((vV 1),(cV (.bl true))) :: [])) (gN 2))
   (seqS (asgS (lstM (aC (vV 1) aN)) (gN 3))
   (seqS (whileS (blM (binM neNilP (vV 3) (lstM aN))) (seqS (asgS (mtM "list" popP (vV 3) aN) (gN 4))
   (forS (seqM (vV 0)) (gT 3 (gsC (gN 5) (gsC (gN 6) (gsC (gN 7) gsN)))) (ifS (andM (blM (binM eqP (vV 5) (vV 4))) (blM (binM notInP (vV 6) (vV 2)))) (seqS (setdS (cV (.bl true)) (vV 2) (vV 6))
   (exprS (mtM "list" appendP (vV 3) (aC (vV 6) aN)))) nopS))))
   (retS (vV 2)))))
noncomputable def m_q35:FM:=callS 8
   (seqS (ifS (truM (callM (on1 anyP) (aC (compM (seqM (vV 0)) (gT 2 (gsC (gN 3) (gsC (gN 4) gsN))) yesM (rdInM rs_ROOMS (binM getP (vV 3) (cV (.int 0)))) [3,4]) aN))) (raiseS "NoRules" (cV (.str "heads"))) nopS)
   (seqS (ifS (truM (callD m_q30 (aC (vV 0) aN))) (raiseS "NoRules" (cV (.str "many"))) nopS)
   (seqS (ifS (truM (callM (on1 anyP) (aC (compM (seqM (vV 0)) (gN 2) yesM (callD m_q24 (aC (vV 2) aN)) [2]) aN))) (raiseS "NoRules" (cV (.str "loose"))) nopS)
   (seqS (asgS (callD m_q28 (aC (vV 0) aN)) (gN 1))
   (ifS (truM (callM (on1 anyP) (aC (compM (seqM (vV 1)) (gT 3 (gsC (gN 5) (gsC (gN 6) (gsC (gN 7) gsN)))) yesM (andV (vV 7) (binM inP (vV 5) (callD m_q4 (aC (vV 1) (aC (vV 6) aN))))) [5,6,7]) aN))) (raiseS "NoRules" (cV (.str "levels"))) nopS)))))
noncomputable def m_q25:FM:=callS 3
   (seqS (asgS (ifM (blM (binM eqP (slM (vV 0) oN (oS (cV (.int 1)))) (cV (.str "-")))) (slM (vV 0) (oS (cV (.int 1))) oN) (vV 0)) (gN 1))
   (seqS (ifS (orM (notM (blM (chainM leP leP (cV (.int 1)) (callM (on1 lenP) (aC (vV 1) aN)) (cV (.int 60))))) (notM (truM (callM (on1 allP) (aC (compM (seqM (vV 1)) (gN 2) yesM (binM inP (vV 2) (cV (.str "0123456789"))) [2]) aN))))) (retS (cV .non)) nopS)
   (seqS (ifS (andM (blM (binM eqP (binM getP (vV 1) (cV (.int 0))) (cV (.str "0")))) (blM (binM neP (vV 0) (cV (.str "0"))))) (retS (cV .non)) nopS)
   (retS (callM (on1 intTP) (aC (vV 0) aN))))))
noncomputable def m_q33:FM:=callS 4
   (seqS (ifS (blM (binM eqP (slM (vV 0) oN (oS (cV (.int 1)))) (cV (.str "?")))) (retS (ifM (truM (callD m_q32 (aC (slM (vV 0) (oS (cV (.int 1))) oN) aN))) (tupM (aC (cV (.str "name")) (aC (slM (vV 0) (oS (cV (.int 1))) oN) aN))) (cV .non))) nopS)
   (seqS (ifS (blM (binM neP (slM (vV 0) oN (oS (cV (.int 1)))) (cV (.str "'")))) (seqS (asgS (callD m_q25 (aC (vV 0) aN)) (gN 2))
   (retS (ifM (blM (isNM (vV 2))) (cV .non) (tupM (aC (cV (.str "is")) (aC (vV 2) aN)))))) nopS)
   (seqS (asgS (slM (vV 0) (oS (cV (.int 1))) (oS (unM negP (cV (.int 1))))) (gN 1))
   (seqS (ifS (orM (blM (binM neP (vV 0) (fsM [(cV (.str "'")),(fmtM (vV 1)),(cV (.str "'"))]))) (orM (notM (blM (chainM leP leP (cV (.int 1)) (callM (on1 lenP) (aC (vV 1) aN)) (cV (.int 12))))) (notM (truM (callM (on1 allP) (aC (compM (seqM (vV 1)) (gN 3) yesM (binM inP (vV 3) (cV (.str "abcdefghijklmnopqrstuvwxyz"))) [3]) aN)))))) (retS (cV .non)) nopS)
   (retS (tupM (aC (cV (.str "is")) (aC (vV 1) aN))))))))
noncomputable def m_q31:FM:=callS 3
   (seqS (ifS (orM (blM (binM eqNilP (vV 0) (lstM aN))) (orM (notM (truM (callD m_q32 (aC (binM getP (vV 0) (cV (.int 0))) aN)))) (blM (binM inP (binM getP (vV 0) (cV (.int 0))) (cV (.tup ((["if", "not"]:List Str).map PV.str))))))) (retS (cV .non)) nopS)
   (seqS (asgS (callM (on1 tupleP) (aC (compM (seqM (slM (vV 0) (oS (cV (.int 1))) oN)) (gN 2) yesM (callD m_q33 (aC (vV 2) aN)) [2]) aN)) (gN 1))
   (retS (ifM (blM (binM noneInTP (cV .non) (vV 1))) (cV .non) (tupM (aC (binM getP (vV 0) (cV (.int 0))) (aC (vV 1) aN)))))))
noncomputable def m_q12:FM:=callS 4
   (seqS (asgS (mtM "str" splitP (vV 0) (aC (cV (.str " ")) aN)) (gN 1))
   (seqS (asgS (binM neP (binM getP (vV 1) (cV (.int 0))) (cV (.str "not"))) (gN 2))
   (seqS (asgS (callD m_q31 (aC (ifM (truM (vV 2)) (vV 1) (slM (vV 1) (oS (cV (.int 1))) oN)) aN)) (gN 3))
   (retS (ifM (blM (isNM (vV 3))) (cV .non) (binM addP (vV 3) (tupM (aC (vV 2) aN))))))))
noncomputable def m_q34:FM:=callS 7
   (seqS (asgS (mtM "str" partP (vV 0) (aC (cV (.str " if ")) aN)) (gT 3 (gsC (gN 3) (gsC (gN 4) (gsC (gN 5) gsN)))))
   (seqS (asgS (callD m_q31 (aC (mtM "str" splitP (vV 3) (aC (cV (.str " ")) aN)) aN)) (gN 1))
   (seqS (asgS (ifM (blM (binM neP (vV 4) (cV (.str "")))) (callM (on1 tupleP) (aC (compM (seqM (mtM "str" splitP (vV 5) (aC (cV (.str ", ")) aN))) (gN 6) yesM (callD m_q12 (aC (vV 6) aN)) [6]) aN)) (tupM aN)) (gN 2))
   (retS (ifM (orM (blM (isNM (vV 1))) (blM (binM noneInTP (cV .non) (vV 2)))) (cV .non) (tupM (aC (vV 1) (aC (vV 2) aN))))))))
noncomputable def m_q7:FM:=callS 3
   (seqS (asgS (ifM (blM (binM eqP (vV 0) (cV (.str "-")))) (tupM aN) (callM (on1 tupleP) (aC (compM (seqM (mtM "str" splitP (vV 0) (aC (cV (.str "; ")) aN))) (gN 2) yesM (callD m_q34 (aC (vV 2) aN)) [2]) aN))) (gN 1))
   (seqS (ifS (blM (binM noneInTP (cV .non) (vV 1))) (raiseS "NoText" (vV 0)) nopS)
   (seqS (tryS [("NoRules",true)] (exprS (callD m_q35 (aC (vV 1) aN))) fun _ _ => neverS)
   (retS (vV 1)))))
noncomputable def m_q21:FM:=callS 5
   (seqS (asgS (cV (.int 314159265358979)) (gN 1))
   (seqS (asgS (lstM aN) (gN 2))
   (seqS (forS (seqM (vV 0)) (gN 3) (seqS (asgS (binM modP (binM addP (binM mulP (vV 1) (cV (.int 1000003))) (vV 3)) (binM subP (binM powP (cV (.int 2)) (cV (.int 61))) (cV (.int 1)))) (gN 1))
   (seqS (asgS (callM (on2 maxP) (aC (vV 3) (aC (binM subP (cV (.int 0)) (vV 3)) aN))) (gN 4))
   (ifS (blM (binM geP (vV 4) (binM powP (cV (.int 10)) (cV (.int 18))))) (exprS (mtM "list" appendP (vV 2) (aC (binM subP (vV 4) (binM powP (cV (.int 10)) (cV (.int 18)))) aN))) nopS))))
   (retS (lstM (aC (vV 2) (aC (cV (.int 0)) (aC (vV 1) (aC (cV (.int 0)) aN)))))))))
noncomputable def m_q16:FM:=callS 4
   (seqS (whileS (andM (blM (binM ltP (binM getP (vV 0) (cV (.int 1))) (cV (.int 2)))) (blM (binM neP (binM getP (vV 0) (cV (.int 0))) (lstM aN)))) (setS (mtM "list" popP (binM getP (vV 0) (cV (.int 0))) (aC (cV (.int 0)) aN)) (vV 0) (cV (.int 1))))
   (seqS (ifS (blM (binM geP (binM getP (vV 0) (cV (.int 1))) (cV (.int 2)))) (seqS (asgS (binM modP (binM getP (vV 0) (cV (.int 1))) (vV 1)) (gN 3))
   (seqS (setS (binM fdivP (binM getP (vV 0) (cV (.int 1))) (vV 1)) (vV 0) (cV (.int 1)))
   (retS (vV 3)))) nopS)
   (seqS (setS (binM addP (binM getP (vV 0) (cV (.int 3))) (cV (.int 1))) (vV 0) (cV (.int 3)))
   (seqS (asgS (binM modP (binM addP (binM mulP (binM addP (binM getP (vV 0) (cV (.int 2))) (cV (.int 5))) (binM powP (binM addP (binM getP (vV 0) (cV (.int 3))) (cV (.int 2))) (cV (.int 3)))) (binM mulP (cV (.int 1000003)) (binM getP (vV 0) (cV (.int 3))))) (binM subP (binM powP (cV (.int 2)) (cV (.int 61))) (cV (.int 1)))) (gN 2))
   (retS (binM modP (binM fdivP (binM modP (binM powP (vV 2) (cV (.int 5))) (binM addP (binM powP (cV (.int 10)) (cV (.int 18))) (cV (.int 9)))) (cV (.int 64))) (vV 1)))))))
noncomputable def m_q9:FM:=callS 3
   (seqS (asgS (callD m_q16 (aC (vV 0) (aC (binM powP (cV (.int 10)) (cV (.int 14))) aN))) (gN 1))
   (seqS (forS (rng1M (cV (.int 3))) (gN 2) (asgS (binM addP (binM mulP (vV 1) (binM powP (cV (.int 10)) (cV (.int 15)))) (callD m_q16 (aC (vV 0) (aC (binM powP (cV (.int 10)) (cV (.int 15))) aN)))) (gN 1)))
   (retS (vV 1))))
noncomputable def m_q10:Nat→FM
 | 0 => fun _ _ => .bad
 | d + 1 => callS 3
   (seqS (ifS (blM (isNM (vV 1))) (retS (isNM (vV 0))) nopS)
   (seqS (ifS (truM (isiM "bool" (vV 1))) (retS (andV (isiM "bool" (vV 0)) (binM eqP (vV 0) (vV 1)))) nopS)
   (seqS (ifS (truM (isiM "int" (vV 1))) (retS (andV (isiM "int" (vV 0)) (andV (notV (isiM "bool" (vV 0))) (binM eqP (vV 0) (vV 1))))) nopS)
   (seqS (ifS (truM (isiM "str" (vV 1))) (retS (andV (isiM "str" (vV 0)) (binM eqP (vV 0) (vV 1)))) nopS)
   (seqS (ifS (orM (blM (binM neP (isiM "list" (vV 0)) (isiM "list" (vV 1)))) (blM (binM neP (isiM "tuple" (vV 0)) (isiM "tuple" (vV 1))))) (retS (cV (.bl false))) nopS)
   (seqS (ifS (blM (binM neP (callM (on1 lenP) (aC (vV 0) aN)) (callM (on1 lenP) (aC (vV 1) aN)))) (retS (cV (.bl false))) nopS)
   (seqS (forS (rng1M (callM (on1 lenP) (aC (vV 1) aN))) (gN 2) (ifS (notM (truM (callD (m_q10 d) (aC (binM getP (vV 0) (vV 2)) (aC (binM getP (vV 1) (vV 2)) aN))))) (retS (cV (.bl false))) nopS))
   (retS (cV (.bl true))))))))))
noncomputable def m_q19:FM:=callS 13
   (seqS (asgS (cV (.str "abcdefghijklmnopqrstuvwxyz")) (gN 2))
   (seqS (asgS (callD m_q16 (aC (vV 0) (aC (cV (.int 5)) aN))) (gN 3))
   (seqS (asgS (binM getP (vV 2) (callD m_q16 (aC (vV 0) (aC (cV (.int 26)) aN)))) (gN 4))
   (seqS (asgS (mtM "str" joinP (cV (.str "")) (aC (compM (rng1M (binM addP (cV (.int 1)) (callD m_q16 (aC (vV 0) (aC (cV (.int 8)) aN))))) (gN 11) yesM (binM getP (vV 2) (callD m_q16 (aC (vV 0) (aC (cV (.int 26)) aN)))) [11]) aN)) (gN 5))
   (seqS (ifS (blM (binM eqP (vV 3) (cV (.int 4)))) (seqS (asgS (lstM (aC (cV (.str "set")) (aC (cV (.str "copy")) (aC (cV (.str "add")) (aC (cV (.str "num")) (aC (cV (.str "not")) (aC (cV (.str "same")) (aC (cV (.str "sends")) (aC (cV (.str "next")) (aC (cV (.str "ends")) (aC (cV (.str "mains")) (aC (cV (.str "calls")) (aC (cV (.str "none")) aN))))))))))))) (gN 8))
   (asgS (binM getP (vV 8) (callD m_q16 (aC (vV 0) (aC (cV (.int 12)) aN)))) (gN 5))) (ifS (andM (blM (binM gtP (vV 3) (cV (.int 0)))) (blM (binM neP (vV 1) (lstM aN)))) (seqS (asgS (binM getP (vV 1) (callD m_q16 (aC (vV 0) (aC (callM (on1 lenP) (aC (vV 1) aN)) aN)))) (gN 9))
   (seqS (asgS (callD m_q16 (aC (vV 0) (aC (binM addP (callM (on1 lenP) (aC (vV 9) aN)) (cV (.int 1))) aN))) (gN 10))
   (asgS (slM (binM addP (binM addP (slM (vV 9) oN (oS (vV 10))) (binM getP (lstM (aC (vV 4) (aC (vV 4) (aC (cV (.str "")) aN)))) (binM subP (vV 3) (cV (.int 1))))) (slM (vV 9) (oS (binM addP (vV 10) (binM getP (lstM (aC (cV (.int 0)) (aC (cV (.int 1)) (aC (cV (.int 1)) aN)))) (binM subP (vV 3) (cV (.int 1)))))) oN)) oN (oS (cV (.int 8)))) (gN 5)))) nopS))
   (seqS (asgS (binM addP (binM addP (binM addP (lstM (aC (vV 5) aN)) (compM (seqM (vV 2)) (gN 12) yesM (vV 12) [12])) (compM (seqM (vV 2)) (gN 12) yesM (binM mulP (vV 12) (cV (.int 3))) [12])) (compM (seqM (vV 2)) (gN 12) yesM (binM mulP (vV 12) (cV (.int 5))) [12])) (gN 6))
   (seqS (asgS (lstM (aC (cV (.str "")) (aC (cV (.str "main")) (aC (cV (.str "def")) (aC (cV (.str "end")) (aC (cV (.str "read")) (aC (cV (.str "clean")) (aC (cV (.str "call")) (aC (cV (.str "send")) (aC (cV (.str "give")) (aC (cV (.str "if")) (aC (cV (.str "else")) aN)))))))))))) (gN 7))
   (retS (binM getP (compM (seqM (vV 6)) (gN 12) (blM (binM notInP (vV 12) (binM addP (vV 1) (vV 7)))) (vV 12) [12]) (cV (.int 0)))))))))))
noncomputable def m_q8:FM:=callS 5
   (seqS (asgS (lstM aN) (gN 3))
   (seqS (forS (rng1M (vV 1)) (gN 4) (exprS (mtM "list" appendP (vV 3) (aC (callD m_q19 (aC (vV 0) (aC (binM addP (vV 2) (vV 3)) aN))) aN))))
   (retS (vV 3))))
noncomputable def m_q14:FM:=callS 1
   (seqS (ifS (blM (binM eqP (callD m_q16 (aC (vV 0) (aC (cV (.int 8)) aN))) (cV (.int 7)))) (retS (binM mulP (binM addP (binM mulP (callD m_q9 (aC (vV 0) aN)) (cV (.int 10))) (callD m_q16 (aC (vV 0) (aC (cV (.int 10)) aN)))) (binM subP (cV (.int 1)) (binM mulP (cV (.int 2)) (callD m_q16 (aC (vV 0) (aC (cV (.int 2)) aN))))))) nopS)
   (retS (binM getP (lstM (aC (cV (.int 0)) (aC (cV (.int 1)) (aC (cV (.int 5)) (aC (cV (.int 99)) (aC (cV (.int 100)) (aC (unM negP (cV (.int 1))) (aC (unM negP (cV (.int 7))) (aC (cV (.int 12)) aN))))))))) (callD m_q16 (aC (vV 0) (aC (cV (.int 8)) aN))))))
noncomputable def m_q6:FM:=callS 1
   (seqS (asgS (dispM (((cV (.str "sets")),(cV (.int 3))) :: ((cV (.str "copies")),(cV (.int 3))) :: ((cV (.str "adds")),(cV (.int 3))) :: ((cV (.str "reads")),(cV (.int 2))) :: ((cV (.str "cleans")),(cV (.int 3))) :: ((cV (.str "calls")),(cV (.int 3))) :: ((cV (.str "hands")),(cV (.int 4))) :: ((cV (.str "takes")),(cV (.int 3))) :: ((cV (.str "sends")),(cV (.int 3))) :: [])) (gN 0))
   (seqS (exprS (mtM "dict" updP (vV 0) (aC (dispM (((cV (.str "gives")),(cV (.int 3))) :: ((cV (.str "asks")),(cV (.int 3))) :: ((cV (.str "next")),(cV (.int 3))) :: [])) aN)))
   (retS (vV 0))))
noncomputable def m_q17:FM:=callS 3
   (seqS (ifS (andM (blM (binM neNilP (vV 1) (lstM aN))) (blM (binM gtP (callD m_q16 (aC (vV 0) (aC (cV (.int 5)) aN))) (cV (.int 0))))) (retS (tupM (aC (cV (.str "name")) (aC (binM getP (vV 1) (callD m_q16 (aC (vV 0) (aC (callM (on1 lenP) (aC (vV 1) aN)) aN)))) aN)))) nopS)
   (retS (tupM (aC (cV (.str "is")) (aC (binM getP (binM addP (lstM (aC (cV (.int 0)) (aC (cV (.int 1)) (aC (cV (.int 2)) (aC (cV (.int 3)) (aC (cV (.int 4)) (aC (callD m_q14 (aC (vV 0) aN)) aN))))))) (vV 2)) (callD m_q16 (aC (vV 0) (aC (binM addP (cV (.int 6)) (callM (on1 lenP) (aC (vV 2) aN))) aN)))) aN)))))
noncomputable def m_q2:FM:=callS 2
   (seqS (asgS (callD m_q8 (aC (vV 0) (aC (cV (.int 4)) (aC (lstM aN) aN)))) (gN 1))
   (seqS (ifS (blM (binM eqP (callD m_q16 (aC (vV 0) (aC (cV (.int 2)) aN))) (cV (.int 0)))) (setS (binM getP (lstM (aC (cV (.str "end")) (aC (cV (.str "if")) (aC (cV (.str "not")) (aC (cV (.str "read")) (aC (cV (.str "else")) (aC (cV (.str "def")) aN))))))) (callD m_q16 (aC (vV 0) (aC (cV (.int 6)) aN)))) (vV 1) (callD m_q16 (aC (vV 0) (aC (cV (.int 4)) aN)))) nopS)
   (retS (vV 1))))
noncomputable def m_q18:FM:=callS 4
   (seqS (asgS (cV (.str "abcdefghijklmnopqrstuvwxyz")) (gN 1))
   (seqS (asgS (binM getP (lstM (aC (binM addP (cV (.int 1)) (callD m_q16 (aC (vV 0) (aC (cV (.int 12)) aN)))) (aC (binM addP (cV (.int 9)) (callD m_q16 (aC (vV 0) (aC (cV (.int 4)) aN)))) aN))) (callD m_q16 (aC (vV 0) (aC (cV (.int 2)) aN)))) (gN 2))
   (retS (mtM "str" joinP (cV (.str "")) (aC (compM (rng1M (vV 2)) (gN 3) yesM (binM getP (vV 1) (callD m_q16 (aC (vV 0) (aC (cV (.int 26)) aN)))) [3]) aN)))))
noncomputable def m_q22:FM:=callS 19
   (seqS (asgS (callD m_q6 aN) (gN 4))
   (seqS (asgS (sortDkM (vV 4)) (gN 5))
   (seqS (asgS (callD m_q2 (aC (vV 0) aN)) (gN 6))
   (seqS (asgS (lstM aN) (gN 7))
   (seqS (asgS (lstM aN) (gN 8))
   (seqS (asgS (lstM aN) (gN 9))
   (seqS (forS (rng1M (binM addP (cV (.int 1)) (callD m_q16 (aC (vV 0) (aC (cV (.int 3)) aN))))) (gN 10) (seqS (asgS (binM getP (vV 5) (callD m_q16 (aC (vV 0) (aC (cV (.int 12)) aN)))) (gN 12))
   (seqS (ifS (andM (blM (binM eqP (callD m_q16 (aC (vV 0) (aC (cV (.int 3)) aN))) (cV (.int 0)))) (blM (binM eqNilP (vV 9) (lstM aN)))) (seqS (asgS (binM getP (binM getP (vV 1) (callD m_q16 (aC (vV 0) (aC (binM addP (vV 2) (cV (.int 1))) aN)))) (cV (.int 0))) (gN 12))
   (exprS (mtM "list" appendP (vV 9) (aC (vV 12) aN)))) nopS)
   (seqS (asgS (m2M get2P (vV 4) (vV 12) (m2M get2P (callM (on1 dictLP) (aC (vV 1) aN)) (vV 12) (cV (.int 0)))) (gN 13))
   (seqS (asgS (compM (rng1M (vV 13)) (gN 16) yesM (callD m_q17 (aC (vV 0) (aC (vV 6) (aC (vV 3) aN)))) [16]) (gN 14))
   (seqS (ifS (andM (blM (binM neNilP (vV 8) (lstM aN))) (blM (binM neNilP (vV 14) (lstM aN)))) (setS (tupM (aC (cV (.str "name")) (aC (binM getP (vV 8) (callD m_q16 (aC (vV 0) (aC (callM (on1 lenP) (aC (vV 8) aN)) aN)))) aN))) (vV 14) (cV (.int 0))) nopS)
   (seqS (exprS (mtM "list" appendP (vV 7) (aC (tupM (aC (vV 12) (aC (callM (on1 tupleP) (aC (vV 14) aN)) (aC (cV (.bl true)) aN)))) aN)))
   (asgS (binM addP (vV 8) (compM (seqM (vV 14)) (gN 17) (blM (binM eqP (binM getP (vV 17) (cV (.int 0))) (cV (.str "name")))) (binM getP (vV 17) (cV (.int 1))) [17])) (gN 8)))))))))
   (seqS (asgS (sortKeyM (vV 8)) (gN 11))
   (seqS (ifS (blM (binM eqP (callD m_q16 (aC (vV 0) (aC (cV (.int 3)) aN))) (cV (.int 0)))) (seqS (asgS (binM getP (binM addP (vV 5) (compM (seqM (slM (vV 1) oN (oS (vV 2)))) (gN 18) yesM (binM getP (vV 18) (cV (.int 0))) [18])) (callD m_q16 (aC (vV 0) (aC (binM addP (cV (.int 12)) (vV 2)) aN)))) (gN 12))
   (seqS (asgS (m2M get2P (vV 4) (vV 12) (m2M get2P (callM (on1 dictLP) (aC (vV 1) aN)) (vV 12) (cV (.int 0)))) (gN 13))
   (seqS (asgS (callM (on1 tupleP) (aC (compM (rng1M (vV 13)) (gN 16) yesM (callD m_q17 (aC (vV 0) (aC (vV 11) (aC (vV 3) aN)))) [16]) aN)) (gN 14))
   (exprS (mtM "list" insertP (vV 7) (aC (callD m_q16 (aC (vV 0) (aC (binM addP (callM (on1 lenP) (aC (vV 7) aN)) (cV (.int 1))) aN))) (aC (tupM (aC (vV 12) (aC (vV 14) (aC (cV (.bl false)) aN)))) aN))))))) nopS)
   (seqS (ifS (blM (binM eqP (callD m_q16 (aC (vV 0) (aC (cV (.int 4)) aN))) (cV (.int 0)))) (seqS (asgS (tupM (aC (callD m_q17 (aC (vV 0) (aC (vV 11) (aC (vV 3) aN)))) (aC (callD m_q17 (aC (vV 0) (aC (vV 11) (aC (vV 3) aN)))) aN))) (gN 15))
   (exprS (mtM "list" insertP (vV 7) (aC (callD m_q16 (aC (vV 0) (aC (binM addP (callM (on1 lenP) (aC (vV 7) aN)) (cV (.int 1))) aN))) (aC (tupM (aC (cV (.str "same")) (aC (vV 15) (aC (binM eqP (callD m_q16 (aC (vV 0) (aC (cV (.int 2)) aN))) (cV (.int 0))) aN)))) aN))))) nopS)
   (seqS (asgS (callM (on1 tupleP) (aC (compM (rng1M (binM getP (binM getP (vV 1) (vV 2)) (cV (.int 1)))) (gN 16) yesM (callD m_q17 (aC (vV 0) (aC (vV 11) (aC (vV 3) aN)))) [16]) aN)) (gN 8))
   (retS (tupM (aC (tupM (aC (binM getP (binM getP (vV 1) (vV 2)) (cV (.int 0))) (aC (vV 8) aN))) (aC (callM (on1 tupleP) (aC (vV 7) aN)) aN)))))))))))))))
noncomputable def m_q11:FM:=callS 8
   (seqS (asgS (binM addP (sortDkM (callD m_q6 aN)) (lstM (aC (cV (.str "same")) (aC (cV (.str "not")) aN)))) (gN 2))
   (seqS (asgS (lstM aN) (gN 3))
   (seqS (forS (seqM (callD m_q8 (aC (vV 0) (aC (binM addP (cV (.int 1)) (callD m_q16 (aC (vV 0) (aC (cV (.int 3)) aN)))) (aC (vV 2) aN))))) (gN 4) (seqS (ifS (blM (binM eqP (callD m_q16 (aC (vV 0) (aC (cV (.int 3)) aN))) (cV (.int 0)))) (asgS (binM getP (lstM (aC (cV (.str "read")) (aC (cV (.str "send")) (aC (cV (.str "def")) aN)))) (callM (on1 lenP) (aC (vV 3) aN))) (gN 4)) nopS)
   (exprS (mtM "list" appendP (vV 3) (aC (tupM (aC (vV 4) (aC (callD m_q16 (aC (vV 0) (aC (binM getP (lstM (aC (cV (.int 4)) (aC (cV (.int 4)) (aC (cV (.int 4)) (aC (cV (.int 7)) aN))))) (callD m_q16 (aC (vV 0) (aC (cV (.int 4)) aN)))) aN))) aN))) aN)))))
   (seqS (asgS (compM (rng1M (callM (on1 lenP) (aC (vV 3) aN))) (gN 7) yesM (callD m_q22 (aC (vV 0) (aC (vV 3) (aC (vV 7) (aC (vV 1) aN))))) [7]) (gN 5))
   (seqS (forS (rng1M (callD m_q16 (aC (vV 0) (aC (cV (.int 3)) aN)))) (gN 6) (exprS (mtM "list" insertP (vV 5) (aC (callD m_q16 (aC (vV 0) (aC (binM addP (callM (on1 lenP) (aC (vV 5) aN)) (cV (.int 1))) aN))) (aC (callD m_q22 (aC (vV 0) (aC (vV 3) (aC (callD m_q16 (aC (vV 0) (aC (callM (on1 lenP) (aC (vV 3) aN)) aN))) (aC (vV 1) aN))))) aN)))))
   (retS (callM (on1 tupleP) (aC (vV 5) aN))))))))
noncomputable def m_q3:FM:=callS 1
   (seqS (ifS (blM (binM eqP (binM getP (vV 0) (cV (.int 0))) (cV (.str "name")))) (retS (binM addP (cV (.str "?")) (binM getP (vV 0) (cV (.int 1))))) nopS)
   (retS (ifM (truM (isiM "int" (binM getP (vV 0) (cV (.int 1))))) (callM (on1 strTP) (aC (binM getP (vV 0) (cV (.int 1))) aN)) (binM addP (binM addP (cV (.str "'")) (binM getP (vV 0) (cV (.int 1)))) (cV (.str "'"))))))
noncomputable def m_q1:FM:=callS 3
   (retS (mtM "str" joinP (cV (.str " ")) (aC (binM addP (lstM (aC (vV 0) aN)) (compM (seqM (vV 1)) (gN 2) yesM (callD m_q3 (aC (vV 2) aN)) [2])) aN)))
noncomputable def m_q0:FM:=callS 9
   (seqS (asgS (lstM aN) (gN 1))
   (seqS (forS (seqM (vV 0)) (gT 2 (gsC (gN 2) (gsC (gN 3) gsN))) (seqS (asgS (lstM aN) (gN 4))
   (seqS (forS (seqM (vV 3)) (gT 3 (gsC (gN 6) (gsC (gN 7) (gsC (gN 8) gsN)))) (exprS (mtM "list" appendP (vV 4) (aC (binM addP (binM getP (lstM (aC (cV (.str "not ")) (aC (cV (.str "")) aN))) (callM (on1 intP) (aC (vV 8) aN))) (callD m_q1 (aC (vV 6) (aC (vV 7) aN)))) aN))))
   (seqS (asgS (ifM (blM (binM eqNilP (vV 4) (lstM aN))) (cV (.str "")) (binM addP (cV (.str " if ")) (mtM "str" joinP (cV (.str ", ")) (aC (vV 4) aN)))) (gN 5))
   (exprS (mtM "list" appendP (vV 1) (aC (binM addP (callD m_q1 (aC (binM getP (vV 2) (cV (.int 0))) (aC (binM getP (vV 2) (cV (.int 1))) aN))) (vV 5)) aN)))))))
   (retS (ifM (blM (binM eqNilP (vV 1) (lstM aN))) (cV (.str "-")) (mtM "str" joinP (cV (.str "; ")) (aC (vV 1) aN))))))
noncomputable def m_law:FM:=callS 10
   (seqS (asgS (callD m_q21 (aC (vV 0) aN)) (gN 1))
   (seqS (forS (rng1M (binM addP (cV (.int 2)) (callM (on1 lenP) (aC (slM (vV 0) oN (oS (cV (.int 12)))) aN)))) (gN 2) (seqS (asgS (binM addP (lstM (aC (callD m_q18 (aC (vV 1) aN)) aN)) (callD m_q8 (aC (vV 1) (aC (callD m_q16 (aC (vV 1) (aC (cV (.int 4)) aN))) (aC (lstM aN) aN))))) (gN 3))
   (seqS (asgS (slM (callD m_q11 (aC (vV 1) (aC (vV 3) aN))) (oS (callD m_q16 (aC (vV 1) (aC (cV (.int 3)) aN)))) oN) (gN 4))
   (seqS (ifS (blM (binM eqP (callD m_q16 (aC (vV 1) (aC (cV (.int 3)) aN))) (cV (.int 0)))) (seqS (asgS (slM (binM addP (binM getP (callD m_q8 (aC (vV 1) (aC (cV (.int 1)) (aC (binM addP (sortDkM (callD m_q6 aN)) (lstM (aC (cV (.str "same")) (aC (cV (.str "not")) aN)))) aN)))) (cV (.int 0))) (cV (.str "z"))) (oS (unM negP (cV (.int 8)))) oN) (gN 6))
   (seqS (asgS (compM (seqM (vV 4)) (gN 8) yesM (binM getP (binM getP (vV 8) (cV (.int 0))) (cV (.int 0))) [8]) (gN 7))
   (seqS (forS (seqM (vV 4)) (gN 8) (asgS (binM addP (vV 7) (compM (seqM (binM getP (vV 8) (cV (.int 1)))) (gN 9) yesM (binM getP (vV 9) (cV (.int 0))) [9])) (gN 7)))
   (ifS (blM (binM notInP (vV 6) (binM addP (binM addP (vV 7) (sortDkM (callD m_q6 aN))) (lstM (aC (cV (.str "same")) (aC (cV (.str "not")) aN)))))) (asgS (binM addP (vV 4) (tupM (aC (tupM (aC (tupM (aC (vV 6) (aC (tupM (aC (tupM (aC (cV (.str "is")) (aC (callD m_q14 (aC (vV 1) aN)) aN))) (aC (tupM (aC (cV (.str "is")) (aC (binM getP (vV 3) (cV (.int 0))) aN))) aN))) aN))) (aC (tupM aN) aN))) aN))) (gN 4)) nopS)))) nopS)
   (seqS (asgS (callD m_q0 (aC (vV 4) aN)) (gN 5))
   (seqS (ifS (orM (notM (truM (callD (m_q10 14) (aC (callD m_q13 (aC (vV 4) aN)) (aC (vV 5) aN))))) (notM (truM (callD (m_q10 14) (aC (callKD m_q13 (fun qs => match qs with | [x0] => [x0] | _ => []) (aC (vV 4) aN)) (aC (vV 5) aN)))))) (retS (cV (.bl false))) nopS)
   (ifS (blM (binM leP (callM (on1 lenP) (aC (vV 5) aN)) (cV (.int 4000)))) (ifS (orM (notM (truM (callD (m_q10 14) (aC (callD m_q7 (aC (vV 5) aN)) (aC (vV 4) aN))))) (notM (truM (callD (m_q10 14) (aC (callKD m_q7 (fun qs => match qs with | [x0] => [x0] | _ => []) (aC (vV 5) aN)) (aC (vV 4) aN)))))) (retS (cV (.bl false))) nopS) nopS)))))))
   (retS (cV (.bl true)))))
section
variable {P:Program} {w:World} {K:PySem.W.Frag} {mg:Str→Option Value} {base:Heap}
theorem ok_q15 (T:Tx K mg w):FnOk P w K mg base (L2.CX P w) 1 T.t_q15.a T.t_q15.d ["term"] (spD P w K mg 1 m_q15):=fn_body (k:=0) T.t_q15.F sc_q15 rfl fun cdv A outer s H Q E hr => by
  have nd:=sc_q15.nd
  have hu1:=hu_of hr
  have hu64:=hr.units
  have hu65:=hu65_of hr
  have tk:=takes_of (X:=cxOf (L2.CX P w) P w K mg base ["term", "word", "worth"] "show_term" (defScope (topS 1)) T.t_q15.a cdv A outer s H E) (E:=E) rfl rfl rfl rfl
  exact (rss_cons (rs_asg (re_var 0) (rg_tup rfl (rgs_cons (rg_name 1 nd rfl (by first | exact .inl rfl | exact .inr rfl)) (rgs_cons (rg_name 2 nd rfl (by first | exact .inl rfl | exact .inr rfl)) rgs_nil))))
   (rss_cons (rs_if (rt_cmp (og_eq hu64) (re_var 1) re_str) (rss_one (rs_ret (re_bin og_add re_str (re_var 2)))) rss_nil)
   (rss_one (rs_ret (re_if (rt_tru (re_isi (by rfl) T.n_isinstance (by rfl) T.n_int (by decide +kernel) (re_var 2))) (re_callTy cr_strT (by rfl) T.n_str (by decide +kernel) (ra_cons (re_var 2) ra_nil)) (re_fs (.cons re_str (.cons (re_fmt (re_var 2)) (.cons re_str .nil)))))))))
theorem ok_q20 (T:Tx K mg w):FnOk P w K mg base (L2.CX P w) 2 T.t_q20.a T.t_q20.d ["relation", "terms"] (spD P w K mg 2 m_q20):=fn_body (k:=1) T.t_q20.F sc_q20 rfl fun cdv A outer s H Q E hr => by
  have nd:=sc_q20.nd
  have hu1:=hu_of hr
  have hu64:=hr.units
  have hu65:=hu65_of hr
  have tk:=takes_of (X:=cxOf (L2.CX P w) P w K mg base ["relation", "terms", "term"] "show_atom" (defScope (topS 2)) T.t_q20.a cdv A outer s H E) (E:=E) rfl rfl rfl rfl
  exact (rss_one (rs_ret (re_bm PySem.F.plainAttrs_str PySem.F.slot_str_join PySem.F.type_str_join om_join re_str (ra_cons (re_bin og_add (re_lst (ra_cons (re_var 0) ra_nil)) (re_lc (own:=[("term",2)]) rfl nd (ri_seq (re_var 1)) (blkOk_by (own:=[("term",2)]) (N:=["relation", "terms", "term"]) (sc:=defScope (topS 2)) (by decide +kernel)) (fun _ _ _ _ _ => (rg_name 2 nd rfl (by first | exact .inl rfl | exact .inr rfl))) (fun _ _ _ _ _ => rts_nil) (fun _ _ _ _ _ => (re_call (ok_q15 T) (hr.mono (by omega)) (by rfl) T.t_q15.g T.t_q15.F.kp T.t_q15.b takes0 (ra_cons (re_var 2) ra_nil) (aC_len aN_len))) (by decide))) ra_nil))))
theorem ok_q5 (T:Tx K mg w):FnOk P w K mg base (L2.CX P w) 3 T.t_q5.a T.t_q5.d ["literal"] (spD P w K mg 1 m_q5):=fn_body (k:=2) T.t_q5.F sc_q5 rfl fun cdv A outer s H Q E hr => by
  have nd:=sc_q5.nd
  have hu1:=hu_of hr
  have hu64:=hr.units
  have hu65:=hu65_of hr
  have tk:=takes_of (X:=cxOf (L2.CX P w) P w K mg base ["literal", "relation", "terms", "truth"] "show_literal" (defScope (topS 3)) T.t_q5.a cdv A outer s H E) (E:=E) rfl rfl rfl rfl
  exact (rss_cons (rs_asg (re_var 0) (rg_tup rfl (rgs_cons (rg_name 1 nd rfl (by first | exact .inl rfl | exact .inr rfl)) (rgs_cons (rg_name 2 nd rfl (by first | exact .inl rfl | exact .inr rfl)) (rgs_cons (rg_name 3 nd rfl (by first | exact .inl rfl | exact .inr rfl)) rgs_nil)))))
   (rss_one (rs_ret (re_if (rt_tru (re_var 3)) (re_call (ok_q20 T) (hr.mono (by omega)) (by rfl) T.t_q20.g T.t_q20.F.kp T.t_q20.b tk (ra_cons (re_var 1) (ra_cons (re_var 2) ra_nil)) (aC_len (aC_len aN_len))) (re_bin og_add re_str (re_call (ok_q20 T) (hr.mono (by omega)) (by rfl) T.t_q20.g T.t_q20.F.kp T.t_q20.b tk (ra_cons (re_var 1) (ra_cons (re_var 2) ra_nil)) (aC_len (aC_len aN_len))))))))
theorem ok_q23 (T:Tx K mg w):FnOk P w K mg base (L2.CX P w) 4 T.t_q23.a T.t_q23.d ["rule"] (spD P w K mg 1 m_q23):=fn_body (k:=3) T.t_q23.F sc_q23 rfl fun cdv A outer s H Q E hr => by
  have nd:=sc_q23.nd
  have hu1:=hu_of hr
  have hu64:=hr.units
  have hu65:=hu65_of hr
  have tk:=takes_of (X:=cxOf (L2.CX P w) P w K mg base ["rule", "head", "body", "relation", "terms", "literal"] "show_rule" (defScope (topS 4)) T.t_q23.a cdv A outer s H E) (E:=E) rfl rfl rfl rfl
  exact (rss_cons (rs_asg (re_var 0) (rg_tup rfl (rgs_cons (rg_tup rfl (rgs_cons (rg_name 3 nd rfl (by first | exact .inl rfl | exact .inr rfl)) (rgs_cons (rg_name 4 nd rfl (by first | exact .inl rfl | exact .inr rfl)) rgs_nil))) (rgs_cons (rg_name 2 nd rfl (by first | exact .inl rfl | exact .inr rfl)) rgs_nil))))
   (rss_cons (rs_set 1 nd rfl (by first | exact .inl rfl | exact .inr rfl) (re_call (ok_q20 T) (hr.mono (by omega)) (by rfl) T.t_q20.g T.t_q20.F.kp T.t_q20.b tk (ra_cons (re_var 3) (ra_cons (re_var 4) ra_nil)) (aC_len (aC_len aN_len))))
   (rss_cons (rs_if (rt_cmp (og_eqUnit hu64) (re_var 2) (re_tup ra_nil)) (rss_one (rs_ret (re_var 1))) rss_nil)
   (rss_one (rs_ret (re_bin og_add (re_bin og_add (re_var 1) re_str) (re_bm PySem.F.plainAttrs_str PySem.F.slot_str_join PySem.F.type_str_join om_join re_str (ra_cons (re_lc (own:=[("literal",5)]) rfl nd (ri_seq (re_var 2)) (blkOk_by (own:=[("literal",5)]) (N:=["rule", "head", "body", "relation", "terms", "literal"]) (sc:=defScope (topS 4)) (by decide +kernel)) (fun _ _ _ _ _ => (rg_name 5 nd rfl (by first | exact .inl rfl | exact .inr rfl))) (fun _ _ _ _ _ => rts_nil) (fun _ _ _ _ _ => (re_call (ok_q5 T) (hr.mono (by omega)) (by rfl) T.t_q5.g T.t_q5.F.kp T.t_q5.b takes0 (ra_cons (re_var 5) ra_nil) (aC_len aN_len))) (by decide)) ra_nil))))))))
theorem ok_q13 (T:Tx K mg w):FnOk P w K mg base (L2.CX P w) 5 T.t_q13.a T.t_q13.d ["rules"] (spD P w K mg 1 m_q13):=fn_body (k:=4) T.t_q13.F sc_q13 rfl fun cdv A outer s H Q E hr => by
  have nd:=sc_q13.nd
  have hu1:=hu_of hr
  have hu64:=hr.units
  have hu65:=hu65_of hr
  have tk:=takes_of (X:=cxOf (L2.CX P w) P w K mg base ["rules", "rule"] "show_rules" (defScope (topS 5)) T.t_q13.a cdv A outer s H E) (E:=E) rfl rfl rfl rfl
  exact (rss_one (rs_ret (re_orT (re_bm PySem.F.plainAttrs_str PySem.F.slot_str_join PySem.F.type_str_join om_join re_str (ra_cons (re_lc (own:=[("rule",1)]) rfl nd (ri_seq (re_var 0)) (blkOk_by (own:=[("rule",1)]) (N:=["rules", "rule"]) (sc:=defScope (topS 5)) (by decide +kernel)) (fun _ _ _ _ _ => (rg_name 1 nd rfl (by first | exact .inl rfl | exact .inr rfl))) (fun _ _ _ _ _ => rts_nil) (fun _ _ _ _ _ => (re_call (ok_q23 T) (hr.mono (by omega)) (by rfl) T.t_q23.g T.t_q23.F.kp T.t_q23.b takes0 (ra_cons (re_var 1) ra_nil) (aC_len aN_len))) (by decide)) ra_nil)) (re_one re_str))))
theorem ok_q32 (T:Tx K mg w):FnOk P w K mg base (L2.CX P w) 1 T.t_q32.a T.t_q32.d ["text"] (spD P w K mg 1 m_q32):=fn_body (k:=0) T.t_q32.F sc_q32 rfl fun cdv A outer s H Q E hr => by
  have nd:=sc_q32.nd
  have hu1:=hu_of hr
  have hu64:=hr.units
  have hu65:=hu65_of hr
  have tk:=takes_of (X:=cxOf (L2.CX P w) P w K mg base ["text", "letter"] "is_name" (defScope (topS 13)) T.t_q32.a cdv A outer s H E) (E:=E) rfl rfl rfl rfl
  exact (rss_one (rs_ret (re_and (re_chain og_le og_le re_int (re_callB cr_len (by rfl) T.n_len (by decide +kernel) (ra_cons (re_var 0) ra_nil)) (re_globI (by rfl) T.c_MOST_LETTERS)) (re_one (re_callB (cr_allP rfl) (by rfl) T.n_all (by decide +kernel) (ra_cons (re_lc (own:=[("letter",1)]) rfl nd (ri_seq (re_var 0)) (blkOk_by (own:=[("letter",1)]) (N:=["text", "letter"]) (sc:=defScope (topS 13)) (by decide +kernel)) (fun _ _ _ _ _ => (rg_name 1 nd rfl (by first | exact .inl rfl | exact .inr rfl))) (fun _ _ _ _ _ => rts_nil) (fun _ _ _ _ _ => (re_cmp (og_in hu65) (re_var 1) (re_globS (by rfl) T.c_LETTERS))) (by decide)) ra_nil))))))
theorem ok_q27 (T:Tx K mg w):FnOk P w K mg base (L2.CX P w) 1 T.t_q27.a T.t_q27.d ["rules"] (spD P w K mg 1 m_q27):=fn_body (k:=0) T.t_q27.F sc_q27 rfl fun cdv A outer s H Q E hr => by
  have nd:=sc_q27.nd
  have hu1:=hu_of hr
  have hu64:=hr.units
  have hu65:=hu65_of hr
  have tk:=takes_of (X:=cxOf (L2.CX P w) P w K mg base ["rules", "head", "body"] "heads_of" (defScope (topS 17)) T.t_q27.a cdv A outer s H E) (E:=E) rfl rfl rfl rfl
  exact (rss_one (rs_ret (re_dc (own:=[("head",1),("body",2)]) rfl nd (ri_seq (re_var 0)) (blkOk_by (own:=[("head",1),("body",2)]) (N:=["rules", "head", "body"]) (sc:=defScope (topS 17)) (by decide +kernel)) (fun _ _ _ _ _ => (rg_tup rfl (rgs_cons (rg_name 1 nd rfl (by first | exact .inl rfl | exact .inr rfl)) (rgs_cons (rg_name 2 nd rfl (by first | exact .inl rfl | exact .inr rfl)) rgs_nil)))) (fun _ _ _ _ _ => rts_nil) (fun _ _ _ _ _ => (re_ix (re_var 1) re_int)) (fun _ _ _ _ _ => re_bl) (by decide))))
theorem ok_q26 (T:Tx K mg w):FnOk P w K mg base (L2.CX P w) 1 T.t_q26.a T.t_q26.d ["terms"] (spD P w K mg 1 m_q26):=fn_body (k:=0) T.t_q26.F sc_q26 rfl fun cdv A outer s H Q E hr => by
  have nd:=sc_q26.nd
  have hu1:=hu_of hr
  have hu64:=hr.units
  have hu65:=hu65_of hr
  have tk:=takes_of (X:=cxOf (L2.CX P w) P w K mg base ["terms", "sort", "what"] "names_of" (defScope (topS 18)) T.t_q26.a cdv A outer s H E) (E:=E) rfl rfl rfl rfl
  exact (rss_one (rs_ret (re_lc (own:=[("sort",1),("what",2)]) rfl nd (ri_seq (re_var 0)) (blkOk_by (own:=[("sort",1),("what",2)]) (N:=["terms", "sort", "what"]) (sc:=defScope (topS 18)) (by decide +kernel)) (fun _ _ _ _ _ => (rg_tup rfl (rgs_cons (rg_name 1 nd rfl (by first | exact .inl rfl | exact .inr rfl)) (rgs_cons (rg_name 2 nd rfl (by first | exact .inl rfl | exact .inr rfl)) rgs_nil)))) (fun _ _ _ _ _ => (rts_one (rt_cmp (og_eq hu64) (re_var 1) re_str))) (fun _ _ _ _ _ => (re_var 2)) (by decide))))
theorem ok_q29 (T:Tx K mg w):FnOk P w K mg base (L2.CX P w) 1 T.t_q29.a T.t_q29.d ["literal"] (spD P w K mg 1 m_q29):=fn_body (k:=0) T.t_q29.F sc_q29 rfl fun cdv A outer s H Q E hr => by
  have nd:=sc_q29.nd
  have hu1:=hu_of hr
  have hu64:=hr.units
  have hu65:=hu65_of hr
  have tk:=takes_of (X:=cxOf (L2.CX P w) P w K mg base ["literal", "relation", "terms", "truth"] "is_asked" (defScope (topS 19)) T.t_q29.a cdv A outer s H E) (E:=E) rfl rfl rfl rfl
  exact (rss_cons (rs_asg (re_var 0) (rg_tup rfl (rgs_cons (rg_name 1 nd rfl (by first | exact .inl rfl | exact .inr rfl)) (rgs_cons (rg_name 2 nd rfl (by first | exact .inl rfl | exact .inr rfl)) (rgs_cons (rg_name 3 nd rfl (by first | exact .inl rfl | exact .inr rfl)) rgs_nil)))))
   (rss_one (rs_ret (re_and (re_var 3) (re_one (re_cmp (og_ne hu64) (re_var 1) (re_globS (by rfl) T.c_SAME)))))))
theorem ok_q30 (T:Tx K mg w):FnOk P w K mg base (L2.CX P w) 1 T.t_q30.a T.t_q30.d ["rules"] (spD P w K mg 1 m_q30):=fn_body (k:=0) T.t_q30.F sc_q30 rfl fun cdv A outer s H Q E hr => by
  have nd:=sc_q30.nd
  have hu1:=hu_of hr
  have hu64:=hr.units
  have hu65:=hu65_of hr
  have tk:=takes_of (X:=cxOf (L2.CX P w) P w K mg base ["rules", "rooms", "head", "body", "relation", "terms", "rest"] "is_many" (defScope (topS 20)) T.t_q30.a cdv A outer s H E) (E:=E) rfl rfl rfl rfl
  exact (rss_cons (rs_set 1 nd rfl (by first | exact .inl rfl | exact .inr rfl) (re_rdCopy T.rd_ROOMS (by rfl) (by rfl) T.n_dict (by decide +kernel)))
   (rss_cons (rs_for (passes_of rfl) rfl (ri_seq (re_var 0)) (rg_tup rfl (rgs_cons (rg_name 2 nd rfl (by first | exact .inl rfl | exact .inr rfl)) (rgs_cons (rg_name 3 nd rfl (by first | exact .inl rfl | exact .inr rfl)) rgs_nil))) (rss_one (rs_forStar (passes_of rfl) rfl (ri_seq (re_bin og_add (re_tup (ra_cons (re_var 2) ra_nil)) (re_callTy cr_tuple (by rfl) T.n_tuple (by decide +kernel) (ra_cons (re_var 3) ra_nil)))) (rgs_cons (rg_name 4 nd rfl (by first | exact .inl rfl | exact .inr rfl)) (rgs_cons (rg_name 5 nd rfl (by first | exact .inl rfl | exact .inr rfl)) (rgs_cons (rg_name 6 nd rfl (by first | exact .inl rfl | exact .inr rfl)) rgs_nil))) (rss_one (rs_if (rt_cmp (og_ne hu64) (re_setdef (re_var 1) (re_var 4) (re_callB cr_len (by rfl) T.n_len (by decide +kernel) (ra_cons (re_var 5) ra_nil)) ⟨rfl,rfl,rfl,rfl⟩) (re_callB cr_len (by rfl) T.n_len (by decide +kernel) (ra_cons (re_var 5) ra_nil))) (rss_one (rs_ret re_bl)) rss_nil)))))
   (rss_one (rs_ret re_bl))))
theorem ok_q24 (T:Tx K mg w):FnOk P w K mg base (L2.CX P w) 2 T.t_q24.a T.t_q24.d ["rule"] (spD P w K mg 1 m_q24):=fn_body (k:=1) T.t_q24.F sc_q24 rfl fun cdv A outer s H Q E hr => by
  have nd:=sc_q24.nd
  have hu1:=hu_of hr
  have hu64:=hr.units
  have hu65:=hu65_of hr
  have tk:=takes_of (X:=cxOf (L2.CX P w) P w K mg base ["rule", "known", "head", "body", "literal", "name", "part"] "is_loose" (defScope (topS 21)) T.t_q24.a cdv A outer s H E) (E:=E) rfl rfl rfl rfl
  exact (rss_cons (rs_asg (re_var 0) (rg_tup rfl (rgs_cons (rg_name 2 nd rfl (by first | exact .inl rfl | exact .inr rfl)) (rgs_cons (rg_name 3 nd rfl (by first | exact .inl rfl | exact .inr rfl)) rgs_nil))))
   (rss_cons (rs_set 1 nd rfl (by first | exact .inl rfl | exact .inr rfl) (re_dc2 (own:=[("literal",4),("name",5)]) rfl nd (ri_seq (re_var 3)) (blkOk_by (own:=[("literal",4),("name",5)]) (N:=["rule", "known", "head", "body", "literal", "name", "part"]) (sc:=defScope (topS 21)) (by decide +kernel)) (vs1:=[5]) (by decide) (fun _ _ _ _ _ => (rg_name 4 nd rfl (by first | exact .inl rfl | exact .inr rfl))) (fun _ _ _ _ _ => (rts_one (rt_tru (re_call (ok_q29 T) (hr.mono (by omega)) (by rfl) T.t_q29.g T.t_q29.F.kp T.t_q29.b takes0 (ra_cons (re_var 4) ra_nil) (aC_len aN_len))))) (fun _ _ _ _ _ => (ri_seq (re_call (ok_q26 T) (hr.mono (by omega)) (by rfl) T.t_q26.g T.t_q26.F.kp T.t_q26.b takes0 (ra_cons (re_ix (re_var 4) re_int) ra_nil) (aC_len aN_len)))) (fun _ _ _ _ _ => (rg_name 5 nd rfl (by first | exact .inl rfl | exact .inr rfl))) (fun _ _ _ _ _ => (re_var 5)) (fun _ _ _ _ _ => re_bl) (by decide) (by decide)))
   (rss_one (rs_ret (re_not (re_callB (cr_allP rfl) (by rfl) T.n_all (by decide +kernel) (ra_cons (re_lc2 (own:=[("part",6),("name",5)]) rfl nd (ri_seq (re_bin og_add (re_tup (ra_cons (re_var 2) ra_nil)) (re_callTy cr_tuple (by rfl) T.n_tuple (by decide +kernel) (ra_cons (re_var 3) ra_nil)))) (blkOk_by (own:=[("part",6),("name",5)]) (N:=["rule", "known", "head", "body", "literal", "name", "part"]) (sc:=defScope (topS 21)) (by decide +kernel)) (vs1:=[5]) (by decide) (fun _ _ _ _ _ => (rg_name 6 nd rfl (by first | exact .inl rfl | exact .inr rfl))) (fun _ _ _ _ _ => rts_nil) (fun _ _ _ _ _ => (ri_seq (re_call (ok_q26 T) (hr.mono (by omega)) (by rfl) T.t_q26.g T.t_q26.F.kp T.t_q26.b takes0 (ra_cons (re_ix (re_var 6) re_int) ra_nil) (aC_len aN_len)))) (fun _ _ _ _ _ => (rg_name 5 nd rfl (by first | exact .inl rfl | exact .inr rfl))) (fun _ _ _ _ _ => rts_nil) (fun _ _ _ _ _ => (re_cmp (og_in hu65) (re_var 5) (re_var 1))) (by decide) (by decide)) ra_nil)))))))
theorem ok_q28 (T:Tx K mg w):FnOk P w K mg base (L2.CX P w) 2 T.t_q28.a T.t_q28.d ["rules"] (spD P w K mg 1 m_q28):=fn_body (k:=1) T.t_q28.F sc_q28 rfl fun cdv A outer s H Q E hr => by
  have nd:=sc_q28.nd
  have hu1:=hu_of hr
  have hu64:=hr.units
  have hu65:=hu65_of hr
  have tk:=takes_of (X:=cxOf (L2.CX P w) P w K mg base ["rules", "heads", "found", "head", "body", "relation", "terms", "truth"] "links_of" (defScope (topS 22)) T.t_q28.a cdv A outer s H E) (E:=E) rfl rfl rfl rfl
  exact (rss_cons (rs_set 1 nd rfl (by first | exact .inl rfl | exact .inr rfl) (re_call (ok_q27 T) (hr.mono (by omega)) (by rfl) T.t_q27.g T.t_q27.F.kp T.t_q27.b tk (ra_cons (re_var 0) ra_nil) (aC_len aN_len)))
   (rss_cons (rs_set 2 nd rfl (by first | exact .inl rfl | exact .inr rfl) (re_lst ra_nil))
   (rss_cons (rs_for (passes_of rfl) rfl (ri_seq (re_var 0)) (rg_tup rfl (rgs_cons (rg_name 3 nd rfl (by first | exact .inl rfl | exact .inr rfl)) (rgs_cons (rg_name 4 nd rfl (by first | exact .inl rfl | exact .inr rfl)) rgs_nil))) (rss_one (rs_expr (re_bm PySem.F.plainAttrs_list PySem.F.slot_list_extend PySem.F.type_list_extend om_extend (re_var 2) (ra_cons (re_lc (own:=[("relation",5),("terms",6),("truth",7)]) rfl nd (ri_seq (re_var 4)) (blkOk_by (own:=[("relation",5),("terms",6),("truth",7)]) (N:=["rules", "heads", "found", "head", "body", "relation", "terms", "truth"]) (sc:=defScope (topS 22)) (by decide +kernel)) (fun _ _ _ _ _ => (rg_tup rfl (rgs_cons (rg_name 5 nd rfl (by first | exact .inl rfl | exact .inr rfl)) (rgs_cons (rg_name 6 nd rfl (by first | exact .inl rfl | exact .inr rfl)) (rgs_cons (rg_name 7 nd rfl (by first | exact .inl rfl | exact .inr rfl)) rgs_nil))))) (fun _ _ _ _ _ => (rts_one (rt_cmp (og_in hu65) (re_var 5) (re_var 1)))) (fun _ _ _ _ _ => (re_tup (ra_cons (re_ix (re_var 3) re_int) (ra_cons (re_var 5) (ra_cons (re_not (re_var 7)) ra_nil))))) (by decide)) ra_nil)))))
   (rss_one (rs_ret (re_var 2))))))
theorem ok_q4 (T:Tx K mg w):FnOk P w K mg base (L2.CX P w) 1 T.t_q4.a T.t_q4.d ["links", "relation"] (spD P w K mg 2 m_q4):=fn_body (k:=0) T.t_q4.F sc_q4 rfl fun cdv A outer s H Q E hr => by
  have nd:=sc_q4.nd
  have hu1:=hu_of hr
  have hu64:=hr.units
  have hu65:=hu65_of hr
  have tk:=takes_of (X:=cxOf (L2.CX P w) P w K mg base ["links", "relation", "found", "waiting", "here", "one", "other", "is_not"] "reached_from" (defScope (topS 23)) T.t_q4.a cdv A outer s H E) (E:=E) rfl rfl rfl rfl
  exact (rss_cons (rs_set 2 nd rfl (by first | exact .inl rfl | exact .inr rfl) (re_disp (rps_cons (re_var 1) re_bl rps_nil)))
   (rss_cons (rs_set 3 nd rfl (by first | exact .inl rfl | exact .inr rfl) (re_lst (ra_cons (re_var 1) ra_nil)))
   (rss_cons (rs_while (passes_of rfl) (rt_cmp (og_neNil hu64) (re_var 3) (re_lst ra_nil)) (rss_cons (rs_set 4 nd rfl (by first | exact .inl rfl | exact .inr rfl) (re_bm0 PySem.F.plainAttrs_list PySem.F.slot_list_pop PySem.F.type_list_pop om_pop (re_var 3)))
   (rss_one (rs_for (passes_of rfl) rfl (ri_seq (re_var 0)) (rg_tup rfl (rgs_cons (rg_name 5 nd rfl (by first | exact .inl rfl | exact .inr rfl)) (rgs_cons (rg_name 6 nd rfl (by first | exact .inl rfl | exact .inr rfl)) (rgs_cons (rg_name 7 nd rfl (by first | exact .inl rfl | exact .inr rfl)) rgs_nil)))) (rss_one (rs_if (rt_of (rw_and (rt_cmp (og_eq hu64) (re_var 5) (re_var 4)) (rw_and1 (rt_cmp (og_notIn hu65) (re_var 6) (re_var 2))))) (rss_cons (rs_subd hu1 re_bl (re_var 2) (re_var 6))
   (rss_one (rs_expr (re_bm PySem.F.plainAttrs_list PySem.F.slot_list_append PySem.F.type_list_append om_append (re_var 3) (ra_cons (re_var 6) ra_nil))))) rss_nil))))))
   (rss_one (rs_ret (re_var 2))))))
theorem ok_q35 (T:Tx K mg w):FnOk P w K mg base (L2.CX P w) 5 T.t_q35.a T.t_q35.d ["rules"] (spD P w K mg 1 m_q35):=fn_body (k:=4) T.t_q35.F sc_q35 rfl fun cdv A outer s H Q E hr => by
  have nd:=sc_q35.nd
  have hu1:=hu_of hr
  have hu64:=hr.units
  have hu65:=hu65_of hr
  have tk:=takes_of (X:=cxOf (L2.CX P w) P w K mg base ["rules", "links", "rule", "head", "body", "one", "other", "is_not"] "look" (defScope (topS 24)) T.t_q35.a cdv A outer s H E) (E:=E) rfl rfl rfl rfl
  exact (rss_cons (rs_if (rt_tru (re_callB (cr_anyP rfl) (by rfl) T.n_any (by decide +kernel) (ra_cons (re_lc (own:=[("head",3),("body",4)]) rfl nd (ri_seq (re_var 0)) (blkOk_by (own:=[("head",3),("body",4)]) (N:=["rules", "links", "rule", "head", "body", "one", "other", "is_not"]) (sc:=defScope (topS 24)) (by decide +kernel)) (fun _ _ _ _ _ => (rg_tup rfl (rgs_cons (rg_name 3 nd rfl (by first | exact .inl rfl | exact .inr rfl)) (rgs_cons (rg_name 4 nd rfl (by first | exact .inl rfl | exact .inr rfl)) rgs_nil)))) (fun _ _ _ _ _ => rts_nil) (fun _ _ _ _ _ => (re_rdIn T.rd_ROOMS (by rfl) (re_ix (re_var 3) re_int))) (by decide)) ra_nil))) (rss_one (rs_raise T.x_NoRules T.i_init (fn_init T.t_einit T.sc_einit T.bo_einit (k:=0)) (hr.mono (by omega)) T.b_einit (by rfl) rfl tk re_str)) rss_nil)
   (rss_cons (rs_if (rt_tru (re_call (ok_q30 T) (hr.mono (by omega)) (by rfl) T.t_q30.g T.t_q30.F.kp T.t_q30.b tk (ra_cons (re_var 0) ra_nil) (aC_len aN_len))) (rss_one (rs_raise T.x_NoRules T.i_init (fn_init T.t_einit T.sc_einit T.bo_einit (k:=0)) (hr.mono (by omega)) T.b_einit (by rfl) rfl tk re_str)) rss_nil)
   (rss_cons (rs_if (rt_tru (re_callB (cr_anyP rfl) (by rfl) T.n_any (by decide +kernel) (ra_cons (re_lc (own:=[("rule",2)]) rfl nd (ri_seq (re_var 0)) (blkOk_by (own:=[("rule",2)]) (N:=["rules", "links", "rule", "head", "body", "one", "other", "is_not"]) (sc:=defScope (topS 24)) (by decide +kernel)) (fun _ _ _ _ _ => (rg_name 2 nd rfl (by first | exact .inl rfl | exact .inr rfl))) (fun _ _ _ _ _ => rts_nil) (fun _ _ _ _ _ => (re_call (ok_q24 T) (hr.mono (by omega)) (by rfl) T.t_q24.g T.t_q24.F.kp T.t_q24.b takes0 (ra_cons (re_var 2) ra_nil) (aC_len aN_len))) (by decide)) ra_nil))) (rss_one (rs_raise T.x_NoRules T.i_init (fn_init T.t_einit T.sc_einit T.bo_einit (k:=0)) (hr.mono (by omega)) T.b_einit (by rfl) rfl tk re_str)) rss_nil)
   (rss_cons (rs_set 1 nd rfl (by first | exact .inl rfl | exact .inr rfl) (re_call (ok_q28 T) (hr.mono (by omega)) (by rfl) T.t_q28.g T.t_q28.F.kp T.t_q28.b tk (ra_cons (re_var 0) ra_nil) (aC_len aN_len)))
   (rss_one (rs_if (rt_tru (re_callB (cr_anyP rfl) (by rfl) T.n_any (by decide +kernel) (ra_cons (re_lc (own:=[("one",5),("other",6),("is_not",7)]) rfl nd (ri_seq (re_var 1)) (blkOk_by (own:=[("one",5),("other",6),("is_not",7)]) (N:=["rules", "links", "rule", "head", "body", "one", "other", "is_not"]) (sc:=defScope (topS 24)) (by decide +kernel)) (fun _ _ _ _ _ => (rg_tup rfl (rgs_cons (rg_name 5 nd rfl (by first | exact .inl rfl | exact .inr rfl)) (rgs_cons (rg_name 6 nd rfl (by first | exact .inl rfl | exact .inr rfl)) (rgs_cons (rg_name 7 nd rfl (by first | exact .inl rfl | exact .inr rfl)) rgs_nil))))) (fun _ _ _ _ _ => rts_nil) (fun _ _ _ _ _ => (re_and (re_var 7) (re_one (re_cmp (og_in hu65) (re_var 5) (re_call (ok_q4 T) (hr.mono (by omega)) (by rfl) T.t_q4.g T.t_q4.F.kp T.t_q4.b takes0 (ra_cons (re_var 1) (ra_cons (re_var 6) ra_nil)) (aC_len (aC_len aN_len))))))) (by decide)) ra_nil))) (rss_one (rs_raise T.x_NoRules T.i_init (fn_init T.t_einit T.sc_einit T.bo_einit (k:=0)) (hr.mono (by omega)) T.b_einit (by rfl) rfl tk re_str)) rss_nil))))))
theorem ok_q25 (T:Tx K mg w):FnOk P w K mg base (L2.CX P w) 1 T.t_q25.a T.t_q25.d ["text"] (spD P w K mg 1 m_q25):=fn_body (k:=0) T.t_q25.F sc_q25 rfl fun cdv A outer s H Q E hr => by
  have nd:=sc_q25.nd
  have hu1:=hu_of hr
  have hu64:=hr.units
  have hu65:=hu65_of hr
  have tk:=takes_of (X:=cxOf (L2.CX P w) P w K mg base ["text", "figures", "sign"] "whole_in" (defScope (topS 30)) T.t_q25.a cdv A outer s H E) (E:=E) rfl rfl rfl rfl
  exact (rss_cons (rs_set 1 nd rfl (by first | exact .inl rfl | exact .inr rfl) (re_if (rt_cmp (og_eq hu64) (re_slice (re_var 0) ro_none (ro_some re_int)) re_str) (re_slice (re_var 0) (ro_some re_int) ro_none) (re_var 0)))
   (rss_cons (rs_if (rt_of (rw_or (rt_not (rt_chain og_le og_le re_int (re_callB cr_len (by rfl) T.n_len (by decide +kernel) (ra_cons (re_var 1) ra_nil)) (re_globI (by rfl) T.c_MOST_FIGURES))) (rw_or1 (rt_not (rt_tru (re_callB (cr_allP rfl) (by rfl) T.n_all (by decide +kernel) (ra_cons (re_lc (own:=[("sign",2)]) rfl nd (ri_seq (re_var 1)) (blkOk_by (own:=[("sign",2)]) (N:=["text", "figures", "sign"]) (sc:=defScope (topS 30)) (by decide +kernel)) (fun _ _ _ _ _ => (rg_name 2 nd rfl (by first | exact .inl rfl | exact .inr rfl))) (fun _ _ _ _ _ => rts_nil) (fun _ _ _ _ _ => (re_cmp (og_in hu65) (re_var 2) (re_globS (by rfl) T.c_FIGURES))) (by decide)) ra_nil))))))) (rss_one (rs_ret re_non)) rss_nil)
   (rss_cons (rs_if (rt_of (rw_and (rt_cmp (og_eq hu64) (re_ix (re_var 1) re_int) re_str) (rw_and1 (rt_cmp (og_ne hu64) (re_var 0) re_str)))) (rss_one (rs_ret re_non)) rss_nil)
   (rss_one (rs_ret (re_callTy cr_intT (by rfl) T.n_int (by decide +kernel) (ra_cons (re_var 0) ra_nil)))))))
theorem ok_q33 (T:Tx K mg w):FnOk P w K mg base (L2.CX P w) 2 T.t_q33.a T.t_q33.d ["word"] (spD P w K mg 1 m_q33):=fn_body (k:=1) T.t_q33.F sc_q33 rfl fun cdv A outer s H Q E hr => by
  have nd:=sc_q33.nd
  have hu1:=hu_of hr
  have hu64:=hr.units
  have hu65:=hu65_of hr
  have tk:=takes_of (X:=cxOf (L2.CX P w) P w K mg base ["word", "inner", "number", "sign"] "term_in" (defScope (topS 31)) T.t_q33.a cdv A outer s H E) (E:=E) rfl rfl rfl rfl
  exact (rss_cons (rs_if (rt_cmp (og_eq hu64) (re_slice (re_var 0) ro_none (ro_some re_int)) re_str) (rss_one (rs_ret (re_if (rt_tru (re_call (ok_q32 T) (hr.mono (by omega)) (by rfl) T.t_q32.g T.t_q32.F.kp T.t_q32.b tk (ra_cons (re_slice (re_var 0) (ro_some re_int) ro_none) ra_nil) (aC_len aN_len))) (re_tup (ra_cons re_str (ra_cons (re_slice (re_var 0) (ro_some re_int) ro_none) ra_nil))) re_non))) rss_nil)
   (rss_cons (rs_if (rt_cmp (og_ne hu64) (re_slice (re_var 0) ro_none (ro_some re_int)) re_str) (rss_cons (rs_set 2 nd rfl (by first | exact .inl rfl | exact .inr rfl) (re_call (ok_q25 T) (hr.mono (by omega)) (by rfl) T.t_q25.g T.t_q25.F.kp T.t_q25.b tk (ra_cons (re_var 0) ra_nil) (aC_len aN_len)))
   (rss_one (rs_ret (re_if (rt_isN (re_var 2)) re_non (re_tup (ra_cons re_str (ra_cons (re_var 2) ra_nil))))))) rss_nil)
   (rss_cons (rs_set 1 nd rfl (by first | exact .inl rfl | exact .inr rfl) (re_slice (re_var 0) (ro_some re_int) (ro_some (re_neg re_int))))
   (rss_cons (rs_if (rt_of (rw_or (rt_cmp (og_ne hu64) (re_var 0) (re_fs (.cons re_str (.cons (re_fmt (re_var 1)) (.cons re_str .nil))))) (rw_or (rt_not (rt_chain og_le og_le re_int (re_callB cr_len (by rfl) T.n_len (by decide +kernel) (ra_cons (re_var 1) ra_nil)) (re_globI (by rfl) T.c_MOST_TEXT))) (rw_or1 (rt_not (rt_tru (re_callB (cr_allP rfl) (by rfl) T.n_all (by decide +kernel) (ra_cons (re_lc (own:=[("sign",3)]) rfl nd (ri_seq (re_var 1)) (blkOk_by (own:=[("sign",3)]) (N:=["word", "inner", "number", "sign"]) (sc:=defScope (topS 31)) (by decide +kernel)) (fun _ _ _ _ _ => (rg_name 3 nd rfl (by first | exact .inl rfl | exact .inr rfl))) (fun _ _ _ _ _ => rts_nil) (fun _ _ _ _ _ => (re_cmp (og_in hu65) (re_var 3) (re_globS (by rfl) T.c_LETTERS))) (by decide)) ra_nil)))))))) (rss_one (rs_ret re_non)) rss_nil)
   (rss_one (rs_ret (re_tup (ra_cons re_str (ra_cons (re_var 1) ra_nil)))))))))
theorem ok_q31 (T:Tx K mg w):FnOk P w K mg base (L2.CX P w) 3 T.t_q31.a T.t_q31.d ["words"] (spD P w K mg 1 m_q31):=fn_body (k:=2) T.t_q31.F sc_q31 rfl fun cdv A outer s H Q E hr => by
  have nd:=sc_q31.nd
  have hu1:=hu_of hr
  have hu64:=hr.units
  have hu65:=hu65_of hr
  have tk:=takes_of (X:=cxOf (L2.CX P w) P w K mg base ["words", "terms", "word"] "atom_in" (defScope (topS 32)) T.t_q31.a cdv A outer s H E) (E:=E) rfl rfl rfl rfl
  exact (rss_cons (rs_if (rt_of (rw_or (rt_cmp (og_eqNil hu64) (re_var 0) (re_lst ra_nil)) (rw_or (rt_not (rt_tru (re_call (ok_q32 T) (hr.mono (by omega)) (by rfl) T.t_q32.g T.t_q32.F.kp T.t_q32.b tk (ra_cons (re_ix (re_var 0) re_int) ra_nil) (aC_len aN_len)))) (rw_or1 (rt_cmp (og_in hu65) (re_ix (re_var 0) re_int) (re_globT T.kt_NO_RELATIONS (by rfl))))))) (rss_one (rs_ret re_non)) rss_nil)
   (rss_cons (rs_set 1 nd rfl (by first | exact .inl rfl | exact .inr rfl) (re_callTy cr_tuple (by rfl) T.n_tuple (by decide +kernel) (ra_cons (re_lc (own:=[("word",2)]) rfl nd (ri_seq (re_slice (re_var 0) (ro_some re_int) ro_none)) (blkOk_by (own:=[("word",2)]) (N:=["words", "terms", "word"]) (sc:=defScope (topS 32)) (by decide +kernel)) (fun _ _ _ _ _ => (rg_name 2 nd rfl (by first | exact .inl rfl | exact .inr rfl))) (fun _ _ _ _ _ => rts_nil) (fun _ _ _ _ _ => (re_call (ok_q33 T) (hr.mono (by omega)) (by rfl) T.t_q33.g T.t_q33.F.kp T.t_q33.b takes0 (ra_cons (re_var 2) ra_nil) (aC_len aN_len))) (by decide)) ra_nil)))
   (rss_one (rs_ret (re_if (rt_cmp (og_noneInT hu65) re_non (re_var 1)) re_non (re_tup (ra_cons (re_ix (re_var 0) re_int) (ra_cons (re_var 1) ra_nil))))))))
theorem ok_q12 (T:Tx K mg w):FnOk P w K mg base (L2.CX P w) 4 T.t_q12.a T.t_q12.d ["text"] (spD P w K mg 1 m_q12):=fn_body (k:=3) T.t_q12.F sc_q12 rfl fun cdv A outer s H Q E hr => by
  have nd:=sc_q12.nd
  have hu1:=hu_of hr
  have hu64:=hr.units
  have hu65:=hu65_of hr
  have tk:=takes_of (X:=cxOf (L2.CX P w) P w K mg base ["text", "words", "truth", "atom"] "literal_in" (defScope (topS 33)) T.t_q12.a cdv A outer s H E) (E:=E) rfl rfl rfl rfl
  exact (rss_cons (rs_set 1 nd rfl (by first | exact .inl rfl | exact .inr rfl) (re_bm PySem.F.plainAttrs_str PySem.F.slot_str_split PySem.F.type_str_split om_split (re_var 0) (ra_cons re_str ra_nil)))
   (rss_cons (rs_set 2 nd rfl (by first | exact .inl rfl | exact .inr rfl) (re_cmp (og_ne hu64) (re_ix (re_var 1) re_int) re_str))
   (rss_cons (rs_set 3 nd rfl (by first | exact .inl rfl | exact .inr rfl) (re_call (ok_q31 T) (hr.mono (by omega)) (by rfl) T.t_q31.g T.t_q31.F.kp T.t_q31.b tk (ra_cons (re_if (rt_tru (re_var 2)) (re_var 1) (re_slice (re_var 1) (ro_some re_int) ro_none)) ra_nil) (aC_len aN_len)))
   (rss_one (rs_ret (re_if (rt_isN (re_var 3)) re_non (re_bin og_add (re_var 3) (re_tup (ra_cons (re_var 2) ra_nil)))))))))
theorem ok_q34 (T:Tx K mg w):FnOk P w K mg base (L2.CX P w) 5 T.t_q34.a T.t_q34.d ["text"] (spD P w K mg 1 m_q34):=fn_body (k:=4) T.t_q34.F sc_q34 rfl fun cdv A outer s H Q E hr => by
  have nd:=sc_q34.nd
  have hu1:=hu_of hr
  have hu64:=hr.units
  have hu65:=hu65_of hr
  have tk:=takes_of (X:=cxOf (L2.CX P w) P w K mg base ["text", "head", "body", "ahead", "amid", "behind", "part"] "rule_in" (defScope (topS 34)) T.t_q34.a cdv A outer s H E) (E:=E) rfl rfl rfl rfl
  exact (rss_cons (rs_asg (re_bm PySem.F.plainAttrs_str PySem.F.slot_str_partition PySem.F.type_str_partition om_partition (re_var 0) (ra_cons re_str ra_nil)) (rg_tup rfl (rgs_cons (rg_name 3 nd rfl (by first | exact .inl rfl | exact .inr rfl)) (rgs_cons (rg_name 4 nd rfl (by first | exact .inl rfl | exact .inr rfl)) (rgs_cons (rg_name 5 nd rfl (by first | exact .inl rfl | exact .inr rfl)) rgs_nil)))))
   (rss_cons (rs_set 1 nd rfl (by first | exact .inl rfl | exact .inr rfl) (re_call (ok_q31 T) (hr.mono (by omega)) (by rfl) T.t_q31.g T.t_q31.F.kp T.t_q31.b tk (ra_cons (re_bm PySem.F.plainAttrs_str PySem.F.slot_str_split PySem.F.type_str_split om_split (re_var 3) (ra_cons re_str ra_nil)) ra_nil) (aC_len aN_len)))
   (rss_cons (rs_set 2 nd rfl (by first | exact .inl rfl | exact .inr rfl) (re_if (rt_cmp (og_ne hu64) (re_var 4) re_str) (re_callTy cr_tuple (by rfl) T.n_tuple (by decide +kernel) (ra_cons (re_lc (own:=[("part",6)]) rfl nd (ri_seq (re_bm PySem.F.plainAttrs_str PySem.F.slot_str_split PySem.F.type_str_split om_split (re_var 5) (ra_cons re_str ra_nil))) (blkOk_by (own:=[("part",6)]) (N:=["text", "head", "body", "ahead", "amid", "behind", "part"]) (sc:=defScope (topS 34)) (by decide +kernel)) (fun _ _ _ _ _ => (rg_name 6 nd rfl (by first | exact .inl rfl | exact .inr rfl))) (fun _ _ _ _ _ => rts_nil) (fun _ _ _ _ _ => (re_call (ok_q12 T) (hr.mono (by omega)) (by rfl) T.t_q12.g T.t_q12.F.kp T.t_q12.b takes0 (ra_cons (re_var 6) ra_nil) (aC_len aN_len))) (by decide)) ra_nil)) (re_tup ra_nil)))
   (rss_one (rs_ret (re_if (rt_of (rw_or (rt_isN (re_var 1)) (rw_or1 (rt_cmp (og_noneInT hu65) re_non (re_var 2))))) re_non (re_tup (ra_cons (re_var 1) (ra_cons (re_var 2) ra_nil)))))))))
theorem ok_q7 (T:Tx K mg w):FnOk P w K mg base (L2.CX P w) 8 T.t_q7.a T.t_q7.d ["text"] (spD P w K mg 1 m_q7):=fn_body (k:=7) T.t_q7.F sc_q7 rfl fun cdv A outer s H Q E hr => by
  have nd:=sc_q7.nd
  have hu1:=hu_of hr
  have hu64:=hr.units
  have hu65:=hu65_of hr
  have tk:=takes_of (X:=cxOf (L2.CX P w) P w K mg base ["text", "rules", "part"] "read_rules" (defScope (topS 35)) T.t_q7.a cdv A outer s H E) (E:=E) rfl rfl rfl rfl
  exact (rss_cons (rs_set 1 nd rfl (by first | exact .inl rfl | exact .inr rfl) (re_if (rt_cmp (og_eq hu64) (re_var 0) re_str) (re_tup ra_nil) (re_callTy cr_tuple (by rfl) T.n_tuple (by decide +kernel) (ra_cons (re_lc (own:=[("part",2)]) rfl nd (ri_seq (re_bm PySem.F.plainAttrs_str PySem.F.slot_str_split PySem.F.type_str_split om_split (re_var 0) (ra_cons re_str ra_nil))) (blkOk_by (own:=[("part",2)]) (N:=["text", "rules", "part"]) (sc:=defScope (topS 35)) (by decide +kernel)) (fun _ _ _ _ _ => (rg_name 2 nd rfl (by first | exact .inl rfl | exact .inr rfl))) (fun _ _ _ _ _ => rts_nil) (fun _ _ _ _ _ => (re_call (ok_q34 T) (hr.mono (by omega)) (by rfl) T.t_q34.g T.t_q34.F.kp T.t_q34.b takes0 (ra_cons (re_var 2) ra_nil) (aC_len aN_len))) (by decide)) ra_nil))))
   (rss_cons (rs_if (rt_cmp (og_noneInT hu65) re_non (re_var 1)) (rss_one (rs_raise T.x_NoText T.i_init (fn_init T.t_einit T.sc_einit T.bo_einit (k:=0)) (hr.mono (by omega)) T.b_einit (by rfl) rfl tk (re_var 0))) rss_nil)
   (rss_cons (rs_tryOnly (cs:=[("NoRules",true)]) rfl rfl ⟨by rfl,by decide,.inl T.x_NoRules.g⟩ tk (cs_cons (ex_of T.x_NoRules.g T.ex_NoRules_NoRules) cs_nil) (fun W pn xe tk po => (rss_one (rs_expr (re_call (ok_q35 T) (hr.mono (by omega)) (by rfl) T.t_q35.g T.t_q35.F.kp T.t_q35.b tk (ra_cons (re_var 1) ra_nil) (aC_len aN_len))))) (fun _ _ => (rss_one rs_never)))
   (rss_one (rs_ret (re_var 1))))))
theorem ok_q21 (T:Tx K mg w):FnOk P w K mg base (L2.CX P w) 1 T.t_q21.a T.t_q21.d ["_law_script"] (spD P w K mg 1 m_q21):=fn_body (k:=0) T.t_q21.F sc_q21 rfl fun cdv A outer s H Q E hr => by
  have nd:=sc_q21.nd
  have hu1:=hu_of hr
  have hu64:=hr.units
  have hu65:=hu65_of hr
  have tk:=takes_of (X:=cxOf (L2.CX P w) P w K mg base ["_law_script", "_law_fold", "_law_great_here", "_law_cell", "_law_much"] "_law_tray" (defScope (topS 37)) T.t_q21.a cdv A outer s H E) (E:=E) rfl rfl rfl rfl
  exact (rss_cons (rs_set 1 nd rfl (by first | exact .inl rfl | exact .inr rfl) re_int)
   (rss_cons (rs_set 2 nd rfl (by first | exact .inl rfl | exact .inr rfl) (re_lst ra_nil))
   (rss_cons (rs_for (passes_of rfl) rfl (ri_seq (re_var 0)) (rg_name 3 nd rfl (by first | exact .inl rfl | exact .inr rfl)) (rss_cons (rs_set 1 nd rfl (by first | exact .inl rfl | exact .inr rfl) (re_bin og_mod (re_bin og_add (re_bin og_mul (re_var 1) re_int) (re_var 3)) (re_bin og_sub (re_bin og_pow re_int re_int) re_int)))
   (rss_cons (rs_set 4 nd rfl (by first | exact .inl rfl | exact .inr rfl) (re_callB (cr_max2P rfl) (by rfl) T.n_max (by decide +kernel) (ra_cons (re_var 3) (ra_cons (re_bin og_sub re_int (re_var 3)) ra_nil))))
   (rss_one (rs_if (rt_cmp og_ge (re_var 4) (re_bin og_pow re_int re_int)) (rss_one (rs_expr (re_bm PySem.F.plainAttrs_list PySem.F.slot_list_append PySem.F.type_list_append om_append (re_var 2) (ra_cons (re_bin og_sub (re_var 4) (re_bin og_pow re_int re_int)) ra_nil)))) rss_nil)))))
   (rss_one (rs_ret (re_lst (ra_cons (re_var 2) (ra_cons re_int (ra_cons (re_var 1) (ra_cons re_int ra_nil))))))))))
theorem ok_q16 (T:Tx K mg w):FnOk P w K mg base (L2.CX P w) 1 T.t_q16.a T.t_q16.d ["_law_tray_here", "_law_many"] (spD P w K mg 2 m_q16):=fn_body (k:=0) T.t_q16.F sc_q16 rfl fun cdv A outer s H Q E hr => by
  have nd:=sc_q16.nd
  have hu1:=hu_of hr
  have hu64:=hr.units
  have hu65:=hu65_of hr
  have tk:=takes_of (X:=cxOf (L2.CX P w) P w K mg base ["_law_tray_here", "_law_many", "_law_mixed", "_law_found"] "_law_draw" (defScope (topS 38)) T.t_q16.a cdv A outer s H E) (E:=E) rfl rfl rfl rfl
  exact (rss_cons (rs_while (passes_of rfl) (rt_of (rw_and (rt_cmp og_lt (re_ix (re_var 0) re_int) re_int) (rw_and1 (rt_cmp (og_ne hu64) (re_ix (re_var 0) re_int) (re_lst ra_nil))))) (rss_one (rs_sub (re_bm PySem.F.plainAttrs_list PySem.F.slot_list_pop PySem.F.type_list_pop om_pop (re_ix (re_var 0) re_int) (ra_cons re_int ra_nil)) (re_var 0) re_int)))
   (rss_cons (rs_if (rt_cmp og_ge (re_ix (re_var 0) re_int) re_int) (rss_cons (rs_set 3 nd rfl (by first | exact .inl rfl | exact .inr rfl) (re_bin og_mod (re_ix (re_var 0) re_int) (re_var 1)))
   (rss_cons (rs_sub (re_bin og_fdiv (re_ix (re_var 0) re_int) (re_var 1)) (re_var 0) re_int)
   (rss_one (rs_ret (re_var 3))))) rss_nil)
   (rss_cons (rs_sub (re_bin og_add (re_ix (re_var 0) re_int) re_int) (re_var 0) re_int)
   (rss_cons (rs_set 2 nd rfl (by first | exact .inl rfl | exact .inr rfl) (re_bin og_mod (re_bin og_add (re_bin og_mul (re_bin og_add (re_ix (re_var 0) re_int) re_int) (re_bin og_pow (re_bin og_add (re_ix (re_var 0) re_int) re_int) re_int)) (re_bin og_mul re_int (re_ix (re_var 0) re_int))) (re_bin og_sub (re_bin og_pow re_int re_int) re_int)))
   (rss_one (rs_ret (re_bin og_mod (re_bin og_fdiv (re_bin og_mod (re_bin og_pow (re_var 2) re_int) (re_bin og_add (re_bin og_pow re_int re_int) re_int)) re_int) (re_var 1))))))))
theorem ok_q9 (T:Tx K mg w):FnOk P w K mg base (L2.CX P w) 2 T.t_q9.a T.t_q9.d ["_law_tray_here"] (spD P w K mg 1 m_q9):=fn_body (k:=1) T.t_q9.F sc_q9 rfl fun cdv A outer s H Q E hr => by
  have nd:=sc_q9.nd
  have hu1:=hu_of hr
  have hu64:=hr.units
  have hu65:=hu65_of hr
  have tk:=takes_of (X:=cxOf (L2.CX P w) P w K mg base ["_law_tray_here", "_law_found", "_law_k"] "_law_great" (defScope (topS 39)) T.t_q9.a cdv A outer s H E) (E:=E) rfl rfl rfl rfl
  exact (rss_cons (rs_set 1 nd rfl (by first | exact .inl rfl | exact .inr rfl) (re_call (ok_q16 T) (hr.mono (by omega)) (by rfl) T.t_q16.g T.t_q16.F.kp T.t_q16.b tk (ra_cons (re_var 0) (ra_cons (re_bin og_pow re_int re_int) ra_nil)) (aC_len (aC_len aN_len))))
   (rss_cons (rs_for (passes_of rfl) rfl (ri_range1 (by rfl) T.n_range re_int) (rg_name 2 nd rfl (by first | exact .inl rfl | exact .inr rfl)) (rss_one (rs_set 1 nd rfl (by first | exact .inl rfl | exact .inr rfl) (re_bin og_add (re_bin og_mul (re_var 1) (re_bin og_pow re_int re_int)) (re_call (ok_q16 T) (hr.mono (by omega)) (by rfl) T.t_q16.g T.t_q16.F.kp T.t_q16.b tk (ra_cons (re_var 0) (ra_cons (re_bin og_pow re_int re_int) ra_nil)) (aC_len (aC_len aN_len)))))))
   (rss_one (rs_ret (re_var 1)))))
theorem ok_q10 (T:Tx K mg w):∀ d:Nat,FnOk P w K mg base (L2.CX P w) (1 + d) T.t_q10.a T.t_q10.d ["_law_found", "_law_due"] (spD P w K mg 2 (m_q10 d))
 | 0 => fn_bad
 | d + 1 => by
  have ih__law_alike:=ok_q10 T d
  exact fn_body (k:=1 + d) T.t_q10.F sc_q10 rfl fun cdv A outer s H Q E hr => by
    have nd:=sc_q10.nd
    have hu1:=hu_of hr
    have hu64:=hr.units
    have hu65:=hu65_of hr
    have tk:=takes_of (X:=cxOf (L2.CX P w) P w K mg base ["_law_found", "_law_due", "_law_k"] "_law_alike" (defScope (topS 40)) T.t_q10.a cdv A outer s H E) (E:=E) rfl rfl rfl rfl
    exact (rss_cons (rs_if (rt_isN (re_var 1)) (rss_one (rs_ret (re_isN (re_var 0)))) rss_nil)
     (rss_cons (rs_if (rt_tru (re_isi (by rfl) T.n_isinstance (by rfl) T.n_bool (by decide +kernel) (re_var 1))) (rss_one (rs_ret (re_and (re_isi (by rfl) T.n_isinstance (by rfl) T.n_bool (by decide +kernel) (re_var 0)) (re_one (re_cmp (og_eq hu64) (re_var 0) (re_var 1)))))) rss_nil)
     (rss_cons (rs_if (rt_tru (re_isi (by rfl) T.n_isinstance (by rfl) T.n_int (by decide +kernel) (re_var 1))) (rss_one (rs_ret (re_and (re_isi (by rfl) T.n_isinstance (by rfl) T.n_int (by decide +kernel) (re_var 0)) (re_and (re_not (re_isi (by rfl) T.n_isinstance (by rfl) T.n_bool (by decide +kernel) (re_var 0))) (re_one (re_cmp (og_eq hu64) (re_var 0) (re_var 1))))))) rss_nil)
     (rss_cons (rs_if (rt_tru (re_isi (by rfl) T.n_isinstance (by rfl) T.n_str (by decide +kernel) (re_var 1))) (rss_one (rs_ret (re_and (re_isi (by rfl) T.n_isinstance (by rfl) T.n_str (by decide +kernel) (re_var 0)) (re_one (re_cmp (og_eq hu64) (re_var 0) (re_var 1)))))) rss_nil)
     (rss_cons (rs_if (rt_of (rw_or (rt_cmp (og_ne hu64) (re_isi (by rfl) T.n_isinstance (by rfl) T.n_list (by decide +kernel) (re_var 0)) (re_isi (by rfl) T.n_isinstance (by rfl) T.n_list (by decide +kernel) (re_var 1))) (rw_or1 (rt_cmp (og_ne hu64) (re_isi (by rfl) T.n_isinstance (by rfl) T.n_tuple (by decide +kernel) (re_var 0)) (re_isi (by rfl) T.n_isinstance (by rfl) T.n_tuple (by decide +kernel) (re_var 1)))))) (rss_one (rs_ret re_bl)) rss_nil)
     (rss_cons (rs_if (rt_cmp (og_ne hu64) (re_callB cr_len (by rfl) T.n_len (by decide +kernel) (ra_cons (re_var 0) ra_nil)) (re_callB cr_len (by rfl) T.n_len (by decide +kernel) (ra_cons (re_var 1) ra_nil))) (rss_one (rs_ret re_bl)) rss_nil)
     (rss_cons (rs_for (passes_of rfl) rfl (ri_range1 (by rfl) T.n_range (re_callB cr_len (by rfl) T.n_len (by decide +kernel) (ra_cons (re_var 1) ra_nil))) (rg_name 2 nd rfl (by first | exact .inl rfl | exact .inr rfl)) (rss_one (rs_if (rt_not (rt_tru (re_call ih__law_alike (hr.mono (by omega)) (by rfl) T.t_q10.g T.t_q10.F.kp T.t_q10.b tk (ra_cons (re_ix (re_var 0) (re_var 2)) (ra_cons (re_ix (re_var 1) (re_var 2)) ra_nil)) (aC_len (aC_len aN_len))))) (rss_one (rs_ret re_bl)) rss_nil)))
     (rss_one (rs_ret re_bl)))))))))
theorem ok_q19 (T:Tx K mg w):FnOk P w K mg base (L2.CX P w) 2 T.t_q19.a T.t_q19.d ["_law_tray_here", "_law_used"] (spD P w K mg 2 m_q19):=fn_body (k:=1) T.t_q19.F sc_q19 rfl fun cdv A outer s H Q E hr => by
  have nd:=sc_q19.nd
  have hu1:=hu_of hr
  have hu64:=hr.units
  have hu65:=hu65_of hr
  have tk:=takes_of (X:=cxOf (L2.CX P w) P w K mg base ["_law_tray_here", "_law_used", "_law_letters", "_law_lot", "_law_letter", "_law_name_here", "_law_some", "_law_bars", "_law_words", "_law_old", "_law_at", "_law_k", "_law_one"] "_law_name" (defScope (topS 41)) T.t_q19.a cdv A outer s H E) (E:=E) rfl rfl rfl rfl
  exact (rss_cons (rs_set 2 nd rfl (by first | exact .inl rfl | exact .inr rfl) re_str)
   (rss_cons (rs_set 3 nd rfl (by first | exact .inl rfl | exact .inr rfl) (re_call (ok_q16 T) (hr.mono (by omega)) (by rfl) T.t_q16.g T.t_q16.F.kp T.t_q16.b tk (ra_cons (re_var 0) (ra_cons re_int ra_nil)) (aC_len (aC_len aN_len))))
   (rss_cons (rs_set 4 nd rfl (by first | exact .inl rfl | exact .inr rfl) (re_ix (re_var 2) (re_call (ok_q16 T) (hr.mono (by omega)) (by rfl) T.t_q16.g T.t_q16.F.kp T.t_q16.b tk (ra_cons (re_var 0) (ra_cons re_int ra_nil)) (aC_len (aC_len aN_len)))))
   (rss_cons (rs_set 5 nd rfl (by first | exact .inl rfl | exact .inr rfl) (re_bm PySem.F.plainAttrs_str PySem.F.slot_str_join PySem.F.type_str_join om_join re_str (ra_cons (re_lc (own:=[("_law_k",11)]) rfl nd (ri_range1 (by rfl) T.n_range (re_bin og_add re_int (re_call (ok_q16 T) (hr.mono (by omega)) (by rfl) T.t_q16.g T.t_q16.F.kp T.t_q16.b tk (ra_cons (re_var 0) (ra_cons re_int ra_nil)) (aC_len (aC_len aN_len))))) (blkOk_by (own:=[("_law_k",11)]) (N:=["_law_tray_here", "_law_used", "_law_letters", "_law_lot", "_law_letter", "_law_name_here", "_law_some", "_law_bars", "_law_words", "_law_old", "_law_at", "_law_k", "_law_one"]) (sc:=defScope (topS 41)) (by decide +kernel)) (fun _ _ _ _ _ => (rg_name 11 nd rfl (by first | exact .inl rfl | exact .inr rfl))) (fun _ _ _ _ _ => rts_nil) (fun _ _ _ _ _ => (re_ix (re_var 2) (re_call (ok_q16 T) (hr.mono (by omega)) (by rfl) T.t_q16.g T.t_q16.F.kp T.t_q16.b takes0 (ra_cons (re_var 0) (ra_cons re_int ra_nil)) (aC_len (aC_len aN_len))))) (by decide)) ra_nil)))
   (rss_cons (rs_if (rt_cmp (og_eq hu64) (re_var 3) re_int) (rss_cons (rs_set 8 nd rfl (by first | exact .inl rfl | exact .inr rfl) (re_lst (ra_cons re_str (ra_cons re_str (ra_cons re_str (ra_cons re_str (ra_cons re_str (ra_cons re_str (ra_cons re_str (ra_cons re_str (ra_cons re_str (ra_cons re_str (ra_cons re_str (ra_cons re_str ra_nil))))))))))))))
   (rss_one (rs_set 5 nd rfl (by first | exact .inl rfl | exact .inr rfl) (re_ix (re_var 8) (re_call (ok_q16 T) (hr.mono (by omega)) (by rfl) T.t_q16.g T.t_q16.F.kp T.t_q16.b tk (ra_cons (re_var 0) (ra_cons re_int ra_nil)) (aC_len (aC_len aN_len))))))) (rss_one (rs_if (rt_of (rw_and (rt_cmp og_gt (re_var 3) re_int) (rw_and1 (rt_cmp (og_ne hu64) (re_var 1) (re_lst ra_nil))))) (rss_cons (rs_set 9 nd rfl (by first | exact .inl rfl | exact .inr rfl) (re_ix (re_var 1) (re_call (ok_q16 T) (hr.mono (by omega)) (by rfl) T.t_q16.g T.t_q16.F.kp T.t_q16.b tk (ra_cons (re_var 0) (ra_cons (re_callB cr_len (by rfl) T.n_len (by decide +kernel) (ra_cons (re_var 1) ra_nil)) ra_nil)) (aC_len (aC_len aN_len)))))
   (rss_cons (rs_set 10 nd rfl (by first | exact .inl rfl | exact .inr rfl) (re_call (ok_q16 T) (hr.mono (by omega)) (by rfl) T.t_q16.g T.t_q16.F.kp T.t_q16.b tk (ra_cons (re_var 0) (ra_cons (re_bin og_add (re_callB cr_len (by rfl) T.n_len (by decide +kernel) (ra_cons (re_var 9) ra_nil)) re_int) ra_nil)) (aC_len (aC_len aN_len))))
   (rss_one (rs_set 5 nd rfl (by first | exact .inl rfl | exact .inr rfl) (re_slice (re_bin og_add (re_bin og_add (re_slice (re_var 9) ro_none (ro_some (re_var 10))) (re_ix (re_lst (ra_cons (re_var 4) (ra_cons (re_var 4) (ra_cons re_str ra_nil)))) (re_bin og_sub (re_var 3) re_int))) (re_slice (re_var 9) (ro_some (re_bin og_add (re_var 10) (re_ix (re_lst (ra_cons re_int (ra_cons re_int (ra_cons re_int ra_nil)))) (re_bin og_sub (re_var 3) re_int)))) ro_none)) ro_none (ro_some re_int)))))) rss_nil)))
   (rss_cons (rs_set 6 nd rfl (by first | exact .inl rfl | exact .inr rfl) (re_bin og_add (re_bin og_add (re_bin og_add (re_lst (ra_cons (re_var 5) ra_nil)) (re_lc (own:=[("_law_one",12)]) rfl nd (ri_seq (re_var 2)) (blkOk_by (own:=[("_law_one",12)]) (N:=["_law_tray_here", "_law_used", "_law_letters", "_law_lot", "_law_letter", "_law_name_here", "_law_some", "_law_bars", "_law_words", "_law_old", "_law_at", "_law_k", "_law_one"]) (sc:=defScope (topS 41)) (by decide +kernel)) (fun _ _ _ _ _ => (rg_name 12 nd rfl (by first | exact .inl rfl | exact .inr rfl))) (fun _ _ _ _ _ => rts_nil) (fun _ _ _ _ _ => (re_var 12)) (by decide))) (re_lc (own:=[("_law_one",12)]) rfl nd (ri_seq (re_var 2)) (blkOk_by (own:=[("_law_one",12)]) (N:=["_law_tray_here", "_law_used", "_law_letters", "_law_lot", "_law_letter", "_law_name_here", "_law_some", "_law_bars", "_law_words", "_law_old", "_law_at", "_law_k", "_law_one"]) (sc:=defScope (topS 41)) (by decide +kernel)) (fun _ _ _ _ _ => (rg_name 12 nd rfl (by first | exact .inl rfl | exact .inr rfl))) (fun _ _ _ _ _ => rts_nil) (fun _ _ _ _ _ => (re_bin og_mul (re_var 12) re_int)) (by decide))) (re_lc (own:=[("_law_one",12)]) rfl nd (ri_seq (re_var 2)) (blkOk_by (own:=[("_law_one",12)]) (N:=["_law_tray_here", "_law_used", "_law_letters", "_law_lot", "_law_letter", "_law_name_here", "_law_some", "_law_bars", "_law_words", "_law_old", "_law_at", "_law_k", "_law_one"]) (sc:=defScope (topS 41)) (by decide +kernel)) (fun _ _ _ _ _ => (rg_name 12 nd rfl (by first | exact .inl rfl | exact .inr rfl))) (fun _ _ _ _ _ => rts_nil) (fun _ _ _ _ _ => (re_bin og_mul (re_var 12) re_int)) (by decide))))
   (rss_cons (rs_set 7 nd rfl (by first | exact .inl rfl | exact .inr rfl) (re_lst (ra_cons re_str (ra_cons re_str (ra_cons re_str (ra_cons re_str (ra_cons re_str (ra_cons re_str (ra_cons re_str (ra_cons re_str (ra_cons re_str (ra_cons re_str (ra_cons re_str ra_nil)))))))))))))
   (rss_one (rs_ret (re_ix (re_lc (own:=[("_law_one",12)]) rfl nd (ri_seq (re_var 6)) (blkOk_by (own:=[("_law_one",12)]) (N:=["_law_tray_here", "_law_used", "_law_letters", "_law_lot", "_law_letter", "_law_name_here", "_law_some", "_law_bars", "_law_words", "_law_old", "_law_at", "_law_k", "_law_one"]) (sc:=defScope (topS 41)) (by decide +kernel)) (fun _ _ _ _ _ => (rg_name 12 nd rfl (by first | exact .inl rfl | exact .inr rfl))) (fun _ _ _ _ _ => (rts_one (rt_cmp (og_notIn hu65) (re_var 12) (re_bin og_add (re_var 1) (re_var 7))))) (fun _ _ _ _ _ => (re_var 12)) (by decide)) re_int))))))))))
theorem ok_q8 (T:Tx K mg w):FnOk P w K mg base (L2.CX P w) 3 T.t_q8.a T.t_q8.d ["_law_tray_here", "_law_many", "_law_used"] (spD P w K mg 3 m_q8):=fn_body (k:=2) T.t_q8.F sc_q8 rfl fun cdv A outer s H Q E hr => by
  have nd:=sc_q8.nd
  have hu1:=hu_of hr
  have hu64:=hr.units
  have hu65:=hu65_of hr
  have tk:=takes_of (X:=cxOf (L2.CX P w) P w K mg base ["_law_tray_here", "_law_many", "_law_used", "_law_found", "_law_k"] "_law_names" (defScope (topS 42)) T.t_q8.a cdv A outer s H E) (E:=E) rfl rfl rfl rfl
  exact (rss_cons (rs_set 3 nd rfl (by first | exact .inl rfl | exact .inr rfl) (re_lst ra_nil))
   (rss_cons (rs_for (passes_of rfl) rfl (ri_range1 (by rfl) T.n_range (re_var 1)) (rg_name 4 nd rfl (by first | exact .inl rfl | exact .inr rfl)) (rss_one (rs_expr (re_bm PySem.F.plainAttrs_list PySem.F.slot_list_append PySem.F.type_list_append om_append (re_var 3) (ra_cons (re_call (ok_q19 T) (hr.mono (by omega)) (by rfl) T.t_q19.g T.t_q19.F.kp T.t_q19.b tk (ra_cons (re_var 0) (ra_cons (re_bin og_add (re_var 2) (re_var 3)) ra_nil)) (aC_len (aC_len aN_len))) ra_nil)))))
   (rss_one (rs_ret (re_var 3)))))
theorem ok_q14 (T:Tx K mg w):FnOk P w K mg base (L2.CX P w) 3 T.t_q14.a T.t_q14.d ["_law_tray_here"] (spD P w K mg 1 m_q14):=fn_body (k:=2) T.t_q14.F sc_q14 rfl fun cdv A outer s H Q E hr => by
  have nd:=sc_q14.nd
  have hu1:=hu_of hr
  have hu64:=hr.units
  have hu65:=hu65_of hr
  have tk:=takes_of (X:=cxOf (L2.CX P w) P w K mg base ["_law_tray_here"] "_law_whole" (defScope (topS 43)) T.t_q14.a cdv A outer s H E) (E:=E) rfl rfl rfl rfl
  exact (rss_cons (rs_if (rt_cmp (og_eq hu64) (re_call (ok_q16 T) (hr.mono (by omega)) (by rfl) T.t_q16.g T.t_q16.F.kp T.t_q16.b tk (ra_cons (re_var 0) (ra_cons re_int ra_nil)) (aC_len (aC_len aN_len))) re_int) (rss_one (rs_ret (re_bin og_mul (re_bin og_add (re_bin og_mul (re_call (ok_q9 T) (hr.mono (by omega)) (by rfl) T.t_q9.g T.t_q9.F.kp T.t_q9.b tk (ra_cons (re_var 0) ra_nil) (aC_len aN_len)) re_int) (re_call (ok_q16 T) (hr.mono (by omega)) (by rfl) T.t_q16.g T.t_q16.F.kp T.t_q16.b tk (ra_cons (re_var 0) (ra_cons re_int ra_nil)) (aC_len (aC_len aN_len)))) (re_bin og_sub re_int (re_bin og_mul re_int (re_call (ok_q16 T) (hr.mono (by omega)) (by rfl) T.t_q16.g T.t_q16.F.kp T.t_q16.b tk (ra_cons (re_var 0) (ra_cons re_int ra_nil)) (aC_len (aC_len aN_len)))))))) rss_nil)
   (rss_one (rs_ret (re_ix (re_lst (ra_cons re_int (ra_cons re_int (ra_cons re_int (ra_cons re_int (ra_cons re_int (ra_cons (re_neg re_int) (ra_cons (re_neg re_int) (ra_cons re_int ra_nil))))))))) (re_call (ok_q16 T) (hr.mono (by omega)) (by rfl) T.t_q16.g T.t_q16.F.kp T.t_q16.b tk (ra_cons (re_var 0) (ra_cons re_int ra_nil)) (aC_len (aC_len aN_len)))))))
theorem ok_q6 (T:Tx K mg w):FnOk P w K mg base (L2.CX P w) 1 T.t_q6.a T.t_q6.d [] (spD P w K mg 0 m_q6):=fn_body (k:=0) T.t_q6.F sc_q6 rfl fun cdv A outer s H Q E hr => by
  have nd:=sc_q6.nd
  have hu1:=hu_of hr
  have hu64:=hr.units
  have hu65:=hu65_of hr
  have tk:=takes_of (X:=cxOf (L2.CX P w) P w K mg base ["_law_found"] "_law_tables" (defScope (topS 44)) T.t_q6.a cdv A outer s H E) (E:=E) rfl rfl rfl rfl
  exact (rss_cons (rs_set 0 nd rfl (by first | exact .inl rfl | exact .inr rfl) (re_disp (rps_cons re_str re_int (rps_cons re_str re_int (rps_cons re_str re_int (rps_cons re_str re_int (rps_cons re_str re_int (rps_cons re_str re_int (rps_cons re_str re_int (rps_cons re_str re_int (rps_cons re_str re_int rps_nil)))))))))))
   (rss_cons (rs_expr (re_bm PySem.F.plainAttrs_dict PySem.F.slot_dict_update PySem.F.type_dict_update om_update (re_var 0) (ra_cons (re_disp (rps_cons re_str re_int (rps_cons re_str re_int (rps_cons re_str re_int rps_nil)))) ra_nil)))
   (rss_one (rs_ret (re_var 0)))))
theorem ok_q17 (T:Tx K mg w):FnOk P w K mg base (L2.CX P w) 4 T.t_q17.a T.t_q17.d ["_law_tray_here", "_law_some", "_law_names_here"] (spD P w K mg 3 m_q17):=fn_body (k:=3) T.t_q17.F sc_q17 rfl fun cdv A outer s H Q E hr => by
  have nd:=sc_q17.nd
  have hu1:=hu_of hr
  have hu64:=hr.units
  have hu65:=hu65_of hr
  have tk:=takes_of (X:=cxOf (L2.CX P w) P w K mg base ["_law_tray_here", "_law_some", "_law_names_here"] "_law_term" (defScope (topS 45)) T.t_q17.a cdv A outer s H E) (E:=E) rfl rfl rfl rfl
  exact (rss_cons (rs_if (rt_of (rw_and (rt_cmp (og_neNil hu64) (re_var 1) (re_lst ra_nil)) (rw_and1 (rt_cmp og_gt (re_call (ok_q16 T) (hr.mono (by omega)) (by rfl) T.t_q16.g T.t_q16.F.kp T.t_q16.b tk (ra_cons (re_var 0) (ra_cons re_int ra_nil)) (aC_len (aC_len aN_len))) re_int)))) (rss_one (rs_ret (re_tup (ra_cons re_str (ra_cons (re_ix (re_var 1) (re_call (ok_q16 T) (hr.mono (by omega)) (by rfl) T.t_q16.g T.t_q16.F.kp T.t_q16.b tk (ra_cons (re_var 0) (ra_cons (re_callB cr_len (by rfl) T.n_len (by decide +kernel) (ra_cons (re_var 1) ra_nil)) ra_nil)) (aC_len (aC_len aN_len)))) ra_nil))))) rss_nil)
   (rss_one (rs_ret (re_tup (ra_cons re_str (ra_cons (re_ix (re_bin og_add (re_lst (ra_cons re_int (ra_cons re_int (ra_cons re_int (ra_cons re_int (ra_cons re_int (ra_cons (re_call (ok_q14 T) (hr.mono (by omega)) (by rfl) T.t_q14.g T.t_q14.F.kp T.t_q14.b tk (ra_cons (re_var 0) ra_nil) (aC_len aN_len)) ra_nil))))))) (re_var 2)) (re_call (ok_q16 T) (hr.mono (by omega)) (by rfl) T.t_q16.g T.t_q16.F.kp T.t_q16.b tk (ra_cons (re_var 0) (ra_cons (re_bin og_add re_int (re_callB cr_len (by rfl) T.n_len (by decide +kernel) (ra_cons (re_var 2) ra_nil))) ra_nil)) (aC_len (aC_len aN_len)))) ra_nil))))))
theorem ok_q2 (T:Tx K mg w):FnOk P w K mg base (L2.CX P w) 4 T.t_q2.a T.t_q2.d ["_law_tray_here"] (spD P w K mg 1 m_q2):=fn_body (k:=3) T.t_q2.F sc_q2 rfl fun cdv A outer s H Q E hr => by
  have nd:=sc_q2.nd
  have hu1:=hu_of hr
  have hu64:=hr.units
  have hu65:=hu65_of hr
  have tk:=takes_of (X:=cxOf (L2.CX P w) P w K mg base ["_law_tray_here", "_law_found"] "_law_free_names" (defScope (topS 46)) T.t_q2.a cdv A outer s H E) (E:=E) rfl rfl rfl rfl
  exact (rss_cons (rs_set 1 nd rfl (by first | exact .inl rfl | exact .inr rfl) (re_call (ok_q8 T) (hr.mono (by omega)) (by rfl) T.t_q8.g T.t_q8.F.kp T.t_q8.b tk (ra_cons (re_var 0) (ra_cons re_int (ra_cons (re_lst ra_nil) ra_nil))) (aC_len (aC_len (aC_len aN_len)))))
   (rss_cons (rs_if (rt_cmp (og_eq hu64) (re_call (ok_q16 T) (hr.mono (by omega)) (by rfl) T.t_q16.g T.t_q16.F.kp T.t_q16.b tk (ra_cons (re_var 0) (ra_cons re_int ra_nil)) (aC_len (aC_len aN_len))) re_int) (rss_one (rs_sub (re_ix (re_lst (ra_cons re_str (ra_cons re_str (ra_cons re_str (ra_cons re_str (ra_cons re_str (ra_cons re_str ra_nil))))))) (re_call (ok_q16 T) (hr.mono (by omega)) (by rfl) T.t_q16.g T.t_q16.F.kp T.t_q16.b tk (ra_cons (re_var 0) (ra_cons re_int ra_nil)) (aC_len (aC_len aN_len)))) (re_var 1) (re_call (ok_q16 T) (hr.mono (by omega)) (by rfl) T.t_q16.g T.t_q16.F.kp T.t_q16.b tk (ra_cons (re_var 0) (ra_cons re_int ra_nil)) (aC_len (aC_len aN_len))))) rss_nil)
   (rss_one (rs_ret (re_var 1)))))
theorem ok_q18 (T:Tx K mg w):FnOk P w K mg base (L2.CX P w) 2 T.t_q18.a T.t_q18.d ["_law_tray_here"] (spD P w K mg 1 m_q18):=fn_body (k:=1) T.t_q18.F sc_q18 rfl fun cdv A outer s H Q E hr => by
  have nd:=sc_q18.nd
  have hu1:=hu_of hr
  have hu64:=hr.units
  have hu65:=hu65_of hr
  have tk:=takes_of (X:=cxOf (L2.CX P w) P w K mg base ["_law_tray_here", "_law_letters", "_law_size", "_law_k"] "_law_long" (defScope (topS 47)) T.t_q18.a cdv A outer s H E) (E:=E) rfl rfl rfl rfl
  exact (rss_cons (rs_set 1 nd rfl (by first | exact .inl rfl | exact .inr rfl) re_str)
   (rss_cons (rs_set 2 nd rfl (by first | exact .inl rfl | exact .inr rfl) (re_ix (re_lst (ra_cons (re_bin og_add re_int (re_call (ok_q16 T) (hr.mono (by omega)) (by rfl) T.t_q16.g T.t_q16.F.kp T.t_q16.b tk (ra_cons (re_var 0) (ra_cons re_int ra_nil)) (aC_len (aC_len aN_len)))) (ra_cons (re_bin og_add re_int (re_call (ok_q16 T) (hr.mono (by omega)) (by rfl) T.t_q16.g T.t_q16.F.kp T.t_q16.b tk (ra_cons (re_var 0) (ra_cons re_int ra_nil)) (aC_len (aC_len aN_len)))) ra_nil))) (re_call (ok_q16 T) (hr.mono (by omega)) (by rfl) T.t_q16.g T.t_q16.F.kp T.t_q16.b tk (ra_cons (re_var 0) (ra_cons re_int ra_nil)) (aC_len (aC_len aN_len)))))
   (rss_one (rs_ret (re_bm PySem.F.plainAttrs_str PySem.F.slot_str_join PySem.F.type_str_join om_join re_str (ra_cons (re_lc (own:=[("_law_k",3)]) rfl nd (ri_range1 (by rfl) T.n_range (re_var 2)) (blkOk_by (own:=[("_law_k",3)]) (N:=["_law_tray_here", "_law_letters", "_law_size", "_law_k"]) (sc:=defScope (topS 47)) (by decide +kernel)) (fun _ _ _ _ _ => (rg_name 3 nd rfl (by first | exact .inl rfl | exact .inr rfl))) (fun _ _ _ _ _ => rts_nil) (fun _ _ _ _ _ => (re_ix (re_var 1) (re_call (ok_q16 T) (hr.mono (by omega)) (by rfl) T.t_q16.g T.t_q16.F.kp T.t_q16.b takes0 (ra_cons (re_var 0) (ra_cons re_int ra_nil)) (aC_len (aC_len aN_len))))) (by decide)) ra_nil))))))
theorem ok_q22 (T:Tx K mg w):FnOk P w K mg base (L2.CX P w) 5 T.t_q22.a T.t_q22.d ["_law_tray_here", "_law_heads", "_law_at", "_law_names_here"] (spD P w K mg 4 m_q22):=fn_body (k:=4) T.t_q22.F sc_q22 rfl fun cdv A outer s H Q E hr => by
  have nd:=sc_q22.nd
  have hu1:=hu_of hr
  have hu64:=hr.units
  have hu65:=hu65_of hr
  have tk:=takes_of (X:=cxOf (L2.CX P w) P w K mg base ["_law_tray_here", "_law_heads", "_law_at", "_law_names_here", "_law_some", "_law_words", "_law_free", "_law_body", "_law_terms", "_law_mine", "_law_k", "_law_bound", "_law_word", "_law_many", "_law_given", "_law_pair", "_law_j", "_law_term_here", "_law_one"] "_law_rule" (defScope (topS 48)) T.t_q22.a cdv A outer s H E) (E:=E) rfl rfl rfl rfl
  exact (rss_cons (rs_set 4 nd rfl (by first | exact .inl rfl | exact .inr rfl) (re_call0 (ok_q6 T) (hr.mono (by omega)) (by rfl) T.t_q6.g T.t_q6.F.kp T.t_q6.b tk))
   (rss_cons (rs_set 5 nd rfl (by first | exact .inl rfl | exact .inr rfl) (re_sortDk rfl (by rfl) T.n_sorted (re_var 4)))
   (rss_cons (rs_set 6 nd rfl (by first | exact .inl rfl | exact .inr rfl) (re_call (ok_q2 T) (hr.mono (by omega)) (by rfl) T.t_q2.g T.t_q2.F.kp T.t_q2.b tk (ra_cons (re_var 0) ra_nil) (aC_len aN_len)))
   (rss_cons (rs_set 7 nd rfl (by first | exact .inl rfl | exact .inr rfl) (re_lst ra_nil))
   (rss_cons (rs_set 8 nd rfl (by first | exact .inl rfl | exact .inr rfl) (re_lst ra_nil))
   (rss_cons (rs_set 9 nd rfl (by first | exact .inl rfl | exact .inr rfl) (re_lst ra_nil))
   (rss_cons (rs_for (passes_of rfl) rfl (ri_range1 (by rfl) T.n_range (re_bin og_add re_int (re_call (ok_q16 T) (hr.mono (by omega)) (by rfl) T.t_q16.g T.t_q16.F.kp T.t_q16.b tk (ra_cons (re_var 0) (ra_cons re_int ra_nil)) (aC_len (aC_len aN_len))))) (rg_name 10 nd rfl (by first | exact .inl rfl | exact .inr rfl)) (rss_cons (rs_set 12 nd rfl (by first | exact .inl rfl | exact .inr rfl) (re_ix (re_var 5) (re_call (ok_q16 T) (hr.mono (by omega)) (by rfl) T.t_q16.g T.t_q16.F.kp T.t_q16.b tk (ra_cons (re_var 0) (ra_cons re_int ra_nil)) (aC_len (aC_len aN_len)))))
   (rss_cons (rs_if (rt_of (rw_and (rt_cmp (og_eq hu64) (re_call (ok_q16 T) (hr.mono (by omega)) (by rfl) T.t_q16.g T.t_q16.F.kp T.t_q16.b tk (ra_cons (re_var 0) (ra_cons re_int ra_nil)) (aC_len (aC_len aN_len))) re_int) (rw_and1 (rt_cmp (og_eqNil hu64) (re_var 9) (re_lst ra_nil))))) (rss_cons (rs_set 12 nd rfl (by first | exact .inl rfl | exact .inr rfl) (re_ix (re_ix (re_var 1) (re_call (ok_q16 T) (hr.mono (by omega)) (by rfl) T.t_q16.g T.t_q16.F.kp T.t_q16.b tk (ra_cons (re_var 0) (ra_cons (re_bin og_add (re_var 2) re_int) ra_nil)) (aC_len (aC_len aN_len)))) re_int))
   (rss_one (rs_expr (re_bm PySem.F.plainAttrs_list PySem.F.slot_list_append PySem.F.type_list_append om_append (re_var 9) (ra_cons (re_var 12) ra_nil))))) rss_nil)
   (rss_cons (rs_set 13 nd rfl (by first | exact .inl rfl | exact .inr rfl) (re_get2 hu1 (re_var 4) (re_var 12) (re_get2 hu1 (re_callTy (cr_dictL rfl) (by rfl) T.n_dict (by decide +kernel) (ra_cons (re_var 1) ra_nil)) (re_var 12) re_int ⟨rfl,rfl,rfl,rfl⟩) ⟨rfl,rfl,rfl,rfl⟩))
   (rss_cons (rs_setLc 14 (own:=[("_law_j",16)]) rfl nd rfl rfl (sw_true rfl rfl rfl (by decide +kernel)) (ri_range1 (by rfl) T.n_range (re_var 13)) (blkOk_by (own:=[("_law_j",16)]) (N:=["_law_tray_here", "_law_heads", "_law_at", "_law_names_here", "_law_some", "_law_words", "_law_free", "_law_body", "_law_terms", "_law_mine", "_law_k", "_law_bound", "_law_word", "_law_many", "_law_given", "_law_pair", "_law_j", "_law_term_here", "_law_one"]) (sc:=defScope (topS 48)) (by decide +kernel)) (fun _ _ _ _ _ => (rg_name 16 nd rfl (by first | exact .inl rfl | exact .inr rfl))) (fun _ _ _ _ _ => rts_nil) (fun _ _ _ _ _ => (re_call (ok_q17 T) (hr.mono (by omega)) (by rfl) T.t_q17.g T.t_q17.F.kp T.t_q17.b takes0 (ra_cons (re_var 0) (ra_cons (re_var 6) (ra_cons (re_var 3) ra_nil))) (aC_len (aC_len (aC_len aN_len))))) (by decide))
   (rss_cons (rs_if (rt_of (rw_and (rt_cmp (og_neNil hu64) (re_var 8) (re_lst ra_nil)) (rw_and1 (rt_cmp (og_neNil hu64) (re_var 14) (re_lst ra_nil))))) (rss_one (rs_sub (re_tup (ra_cons re_str (ra_cons (re_ix (re_var 8) (re_call (ok_q16 T) (hr.mono (by omega)) (by rfl) T.t_q16.g T.t_q16.F.kp T.t_q16.b tk (ra_cons (re_var 0) (ra_cons (re_callB cr_len (by rfl) T.n_len (by decide +kernel) (ra_cons (re_var 8) ra_nil)) ra_nil)) (aC_len (aC_len aN_len)))) ra_nil))) (re_var 14) re_int)) rss_nil)
   (rss_cons (rs_expr (re_bm PySem.F.plainAttrs_list PySem.F.slot_list_append PySem.F.type_list_append om_append (re_var 7) (ra_cons (re_tup (ra_cons (re_var 12) (ra_cons (re_callTy cr_tuple (by rfl) T.n_tuple (by decide +kernel) (ra_cons (re_var 14) ra_nil)) (ra_cons re_bl ra_nil)))) ra_nil)))
   (rss_one (rs_set 8 nd rfl (by first | exact .inl rfl | exact .inr rfl) (re_bin og_add (re_var 8) (re_lc (own:=[("_law_term_here",17)]) rfl nd (ri_seq (re_var 14)) (blkOk_by (own:=[("_law_term_here",17)]) (N:=["_law_tray_here", "_law_heads", "_law_at", "_law_names_here", "_law_some", "_law_words", "_law_free", "_law_body", "_law_terms", "_law_mine", "_law_k", "_law_bound", "_law_word", "_law_many", "_law_given", "_law_pair", "_law_j", "_law_term_here", "_law_one"]) (sc:=defScope (topS 48)) (by decide +kernel)) (fun _ _ _ _ _ => (rg_name 17 nd rfl (by first | exact .inl rfl | exact .inr rfl))) (fun _ _ _ _ _ => (rts_one (rt_cmp (og_eq hu64) (re_ix (re_var 17) re_int) re_str))) (fun _ _ _ _ _ => (re_ix (re_var 17) re_int)) (by decide))))))))))))
   (rss_cons (rs_set 11 nd rfl (by first | exact .inl rfl | exact .inr rfl) (re_sortKey rfl (by rfl) T.n_sorted (by rfl) T.n_set (re_var 8)))
   (rss_cons (rs_if (rt_cmp (og_eq hu64) (re_call (ok_q16 T) (hr.mono (by omega)) (by rfl) T.t_q16.g T.t_q16.F.kp T.t_q16.b tk (ra_cons (re_var 0) (ra_cons re_int ra_nil)) (aC_len (aC_len aN_len))) re_int) (rss_cons (rs_set 12 nd rfl (by first | exact .inl rfl | exact .inr rfl) (re_ix (re_bin og_add (re_var 5) (re_lc (own:=[("_law_one",18)]) rfl nd (ri_seq (re_slice (re_var 1) ro_none (ro_some (re_var 2)))) (blkOk_by (own:=[("_law_one",18)]) (N:=["_law_tray_here", "_law_heads", "_law_at", "_law_names_here", "_law_some", "_law_words", "_law_free", "_law_body", "_law_terms", "_law_mine", "_law_k", "_law_bound", "_law_word", "_law_many", "_law_given", "_law_pair", "_law_j", "_law_term_here", "_law_one"]) (sc:=defScope (topS 48)) (by decide +kernel)) (fun _ _ _ _ _ => (rg_name 18 nd rfl (by first | exact .inl rfl | exact .inr rfl))) (fun _ _ _ _ _ => rts_nil) (fun _ _ _ _ _ => (re_ix (re_var 18) re_int)) (by decide))) (re_call (ok_q16 T) (hr.mono (by omega)) (by rfl) T.t_q16.g T.t_q16.F.kp T.t_q16.b tk (ra_cons (re_var 0) (ra_cons (re_bin og_add re_int (re_var 2)) ra_nil)) (aC_len (aC_len aN_len)))))
   (rss_cons (rs_set 13 nd rfl (by first | exact .inl rfl | exact .inr rfl) (re_get2 hu1 (re_var 4) (re_var 12) (re_get2 hu1 (re_callTy (cr_dictL rfl) (by rfl) T.n_dict (by decide +kernel) (ra_cons (re_var 1) ra_nil)) (re_var 12) re_int ⟨rfl,rfl,rfl,rfl⟩) ⟨rfl,rfl,rfl,rfl⟩))
   (rss_cons (rs_set 14 nd rfl (by first | exact .inl rfl | exact .inr rfl) (re_callTy cr_tuple (by rfl) T.n_tuple (by decide +kernel) (ra_cons (re_lc (own:=[("_law_j",16)]) rfl nd (ri_range1 (by rfl) T.n_range (re_var 13)) (blkOk_by (own:=[("_law_j",16)]) (N:=["_law_tray_here", "_law_heads", "_law_at", "_law_names_here", "_law_some", "_law_words", "_law_free", "_law_body", "_law_terms", "_law_mine", "_law_k", "_law_bound", "_law_word", "_law_many", "_law_given", "_law_pair", "_law_j", "_law_term_here", "_law_one"]) (sc:=defScope (topS 48)) (by decide +kernel)) (fun _ _ _ _ _ => (rg_name 16 nd rfl (by first | exact .inl rfl | exact .inr rfl))) (fun _ _ _ _ _ => rts_nil) (fun _ _ _ _ _ => (re_call (ok_q17 T) (hr.mono (by omega)) (by rfl) T.t_q17.g T.t_q17.F.kp T.t_q17.b takes0 (ra_cons (re_var 0) (ra_cons (re_var 11) (ra_cons (re_var 3) ra_nil))) (aC_len (aC_len (aC_len aN_len))))) (by decide)) ra_nil)))
   (rss_one (rs_expr (re_bm PySem.F.plainAttrs_list PySem.F.slot_list_insert PySem.F.type_list_insert om_insert (re_var 7) (ra_cons (re_call (ok_q16 T) (hr.mono (by omega)) (by rfl) T.t_q16.g T.t_q16.F.kp T.t_q16.b tk (ra_cons (re_var 0) (ra_cons (re_bin og_add (re_callB cr_len (by rfl) T.n_len (by decide +kernel) (ra_cons (re_var 7) ra_nil)) re_int) ra_nil)) (aC_len (aC_len aN_len))) (ra_cons (re_tup (ra_cons (re_var 12) (ra_cons (re_var 14) (ra_cons re_bl ra_nil)))) ra_nil)))))))) rss_nil)
   (rss_cons (rs_if (rt_cmp (og_eq hu64) (re_call (ok_q16 T) (hr.mono (by omega)) (by rfl) T.t_q16.g T.t_q16.F.kp T.t_q16.b tk (ra_cons (re_var 0) (ra_cons re_int ra_nil)) (aC_len (aC_len aN_len))) re_int) (rss_cons (rs_set 15 nd rfl (by first | exact .inl rfl | exact .inr rfl) (re_tup (ra_cons (re_call (ok_q17 T) (hr.mono (by omega)) (by rfl) T.t_q17.g T.t_q17.F.kp T.t_q17.b tk (ra_cons (re_var 0) (ra_cons (re_var 11) (ra_cons (re_var 3) ra_nil))) (aC_len (aC_len (aC_len aN_len)))) (ra_cons (re_call (ok_q17 T) (hr.mono (by omega)) (by rfl) T.t_q17.g T.t_q17.F.kp T.t_q17.b tk (ra_cons (re_var 0) (ra_cons (re_var 11) (ra_cons (re_var 3) ra_nil))) (aC_len (aC_len (aC_len aN_len)))) ra_nil))))
   (rss_one (rs_expr (re_bm PySem.F.plainAttrs_list PySem.F.slot_list_insert PySem.F.type_list_insert om_insert (re_var 7) (ra_cons (re_call (ok_q16 T) (hr.mono (by omega)) (by rfl) T.t_q16.g T.t_q16.F.kp T.t_q16.b tk (ra_cons (re_var 0) (ra_cons (re_bin og_add (re_callB cr_len (by rfl) T.n_len (by decide +kernel) (ra_cons (re_var 7) ra_nil)) re_int) ra_nil)) (aC_len (aC_len aN_len))) (ra_cons (re_tup (ra_cons re_str (ra_cons (re_var 15) (ra_cons (re_cmp (og_eq hu64) (re_call (ok_q16 T) (hr.mono (by omega)) (by rfl) T.t_q16.g T.t_q16.F.kp T.t_q16.b tk (ra_cons (re_var 0) (ra_cons re_int ra_nil)) (aC_len (aC_len aN_len))) re_int) ra_nil)))) ra_nil)))))) rss_nil)
   (rss_cons (rs_set 8 nd rfl (by first | exact .inl rfl | exact .inr rfl) (re_callTy cr_tuple (by rfl) T.n_tuple (by decide +kernel) (ra_cons (re_lc (own:=[("_law_j",16)]) rfl nd (ri_range1 (by rfl) T.n_range (re_ix (re_ix (re_var 1) (re_var 2)) re_int)) (blkOk_by (own:=[("_law_j",16)]) (N:=["_law_tray_here", "_law_heads", "_law_at", "_law_names_here", "_law_some", "_law_words", "_law_free", "_law_body", "_law_terms", "_law_mine", "_law_k", "_law_bound", "_law_word", "_law_many", "_law_given", "_law_pair", "_law_j", "_law_term_here", "_law_one"]) (sc:=defScope (topS 48)) (by decide +kernel)) (fun _ _ _ _ _ => (rg_name 16 nd rfl (by first | exact .inl rfl | exact .inr rfl))) (fun _ _ _ _ _ => rts_nil) (fun _ _ _ _ _ => (re_call (ok_q17 T) (hr.mono (by omega)) (by rfl) T.t_q17.g T.t_q17.F.kp T.t_q17.b takes0 (ra_cons (re_var 0) (ra_cons (re_var 11) (ra_cons (re_var 3) ra_nil))) (aC_len (aC_len (aC_len aN_len))))) (by decide)) ra_nil)))
   (rss_one (rs_ret (re_tup (ra_cons (re_tup (ra_cons (re_ix (re_ix (re_var 1) (re_var 2)) re_int) (ra_cons (re_var 8) ra_nil))) (ra_cons (re_callTy cr_tuple (by rfl) T.n_tuple (by decide +kernel) (ra_cons (re_var 7) ra_nil)) ra_nil))))))))))))))))
theorem ok_q11 (T:Tx K mg w):FnOk P w K mg base (L2.CX P w) 6 T.t_q11.a T.t_q11.d ["_law_tray_here", "_law_names_here"] (spD P w K mg 2 m_q11):=fn_body (k:=5) T.t_q11.F sc_q11 rfl fun cdv A outer s H Q E hr => by
  have nd:=sc_q11.nd
  have hu1:=hu_of hr
  have hu64:=hr.units
  have hu65:=hu65_of hr
  have tk:=takes_of (X:=cxOf (L2.CX P w) P w K mg base ["_law_tray_here", "_law_names_here", "_law_bars", "_law_heads", "_law_name_here", "_law_found", "_law_k", "_law_at"] "_law_rules" (defScope (topS 49)) T.t_q11.a cdv A outer s H E) (E:=E) rfl rfl rfl rfl
  exact (rss_cons (rs_set 2 nd rfl (by first | exact .inl rfl | exact .inr rfl) (re_bin og_add (re_sortDk rfl (by rfl) T.n_sorted (re_call0 (ok_q6 T) (hr.mono (by omega)) (by rfl) T.t_q6.g T.t_q6.F.kp T.t_q6.b tk)) (re_lst (ra_cons re_str (ra_cons re_str ra_nil)))))
   (rss_cons (rs_set 3 nd rfl (by first | exact .inl rfl | exact .inr rfl) (re_lst ra_nil))
   (rss_cons (rs_for (passes_of rfl) rfl (ri_seq (re_call (ok_q8 T) (hr.mono (by omega)) (by rfl) T.t_q8.g T.t_q8.F.kp T.t_q8.b tk (ra_cons (re_var 0) (ra_cons (re_bin og_add re_int (re_call (ok_q16 T) (hr.mono (by omega)) (by rfl) T.t_q16.g T.t_q16.F.kp T.t_q16.b tk (ra_cons (re_var 0) (ra_cons re_int ra_nil)) (aC_len (aC_len aN_len)))) (ra_cons (re_var 2) ra_nil))) (aC_len (aC_len (aC_len aN_len))))) (rg_name 4 nd rfl (by first | exact .inl rfl | exact .inr rfl)) (rss_cons (rs_if (rt_cmp (og_eq hu64) (re_call (ok_q16 T) (hr.mono (by omega)) (by rfl) T.t_q16.g T.t_q16.F.kp T.t_q16.b tk (ra_cons (re_var 0) (ra_cons re_int ra_nil)) (aC_len (aC_len aN_len))) re_int) (rss_one (rs_set 4 nd rfl (by first | exact .inl rfl | exact .inr rfl) (re_ix (re_lst (ra_cons re_str (ra_cons re_str (ra_cons re_str ra_nil)))) (re_callB cr_len (by rfl) T.n_len (by decide +kernel) (ra_cons (re_var 3) ra_nil))))) rss_nil)
   (rss_one (rs_expr (re_bm PySem.F.plainAttrs_list PySem.F.slot_list_append PySem.F.type_list_append om_append (re_var 3) (ra_cons (re_tup (ra_cons (re_var 4) (ra_cons (re_call (ok_q16 T) (hr.mono (by omega)) (by rfl) T.t_q16.g T.t_q16.F.kp T.t_q16.b tk (ra_cons (re_var 0) (ra_cons (re_ix (re_lst (ra_cons re_int (ra_cons re_int (ra_cons re_int (ra_cons re_int ra_nil))))) (re_call (ok_q16 T) (hr.mono (by omega)) (by rfl) T.t_q16.g T.t_q16.F.kp T.t_q16.b tk (ra_cons (re_var 0) (ra_cons re_int ra_nil)) (aC_len (aC_len aN_len)))) ra_nil)) (aC_len (aC_len aN_len))) ra_nil))) ra_nil))))))
   (rss_cons (rs_setLc 5 (own:=[("_law_at",7)]) rfl nd rfl rfl (sw_true rfl rfl rfl (by decide +kernel)) (ri_range1 (by rfl) T.n_range (re_callB cr_len (by rfl) T.n_len (by decide +kernel) (ra_cons (re_var 3) ra_nil))) (blkOk_by (own:=[("_law_at",7)]) (N:=["_law_tray_here", "_law_names_here", "_law_bars", "_law_heads", "_law_name_here", "_law_found", "_law_k", "_law_at"]) (sc:=defScope (topS 49)) (by decide +kernel)) (fun _ _ _ _ _ => (rg_name 7 nd rfl (by first | exact .inl rfl | exact .inr rfl))) (fun _ _ _ _ _ => rts_nil) (fun _ _ _ _ _ => (re_call (ok_q22 T) (hr.mono (by omega)) (by rfl) T.t_q22.g T.t_q22.F.kp T.t_q22.b takes0 (ra_cons (re_var 0) (ra_cons (re_var 3) (ra_cons (re_var 7) (ra_cons (re_var 1) ra_nil)))) (aC_len (aC_len (aC_len (aC_len aN_len)))))) (by decide))
   (rss_cons (rs_for (passes_of rfl) rfl (ri_range1 (by rfl) T.n_range (re_call (ok_q16 T) (hr.mono (by omega)) (by rfl) T.t_q16.g T.t_q16.F.kp T.t_q16.b tk (ra_cons (re_var 0) (ra_cons re_int ra_nil)) (aC_len (aC_len aN_len)))) (rg_name 6 nd rfl (by first | exact .inl rfl | exact .inr rfl)) (rss_one (rs_expr (re_bm PySem.F.plainAttrs_list PySem.F.slot_list_insert PySem.F.type_list_insert om_insert (re_var 5) (ra_cons (re_call (ok_q16 T) (hr.mono (by omega)) (by rfl) T.t_q16.g T.t_q16.F.kp T.t_q16.b tk (ra_cons (re_var 0) (ra_cons (re_bin og_add (re_callB cr_len (by rfl) T.n_len (by decide +kernel) (ra_cons (re_var 5) ra_nil)) re_int) ra_nil)) (aC_len (aC_len aN_len))) (ra_cons (re_call (ok_q22 T) (hr.mono (by omega)) (by rfl) T.t_q22.g T.t_q22.F.kp T.t_q22.b tk (ra_cons (re_var 0) (ra_cons (re_var 3) (ra_cons (re_call (ok_q16 T) (hr.mono (by omega)) (by rfl) T.t_q16.g T.t_q16.F.kp T.t_q16.b tk (ra_cons (re_var 0) (ra_cons (re_callB cr_len (by rfl) T.n_len (by decide +kernel) (ra_cons (re_var 3) ra_nil)) ra_nil)) (aC_len (aC_len aN_len))) (ra_cons (re_var 1) ra_nil)))) (aC_len (aC_len (aC_len (aC_len aN_len))))) ra_nil))))))
   (rss_one (rs_ret (re_callTy cr_tuple (by rfl) T.n_tuple (by decide +kernel) (ra_cons (re_var 5) ra_nil)))))))))
theorem ok_q3 (T:Tx K mg w):FnOk P w K mg base (L2.CX P w) 1 T.t_q3.a T.t_q3.d ["_law_term_here"] (spD P w K mg 1 m_q3):=fn_body (k:=0) T.t_q3.F sc_q3 rfl fun cdv A outer s H Q E hr => by
  have nd:=sc_q3.nd
  have hu1:=hu_of hr
  have hu64:=hr.units
  have hu65:=hu65_of hr
  have tk:=takes_of (X:=cxOf (L2.CX P w) P w K mg base ["_law_term_here"] "_law_term_shown" (defScope (topS 50)) T.t_q3.a cdv A outer s H E) (E:=E) rfl rfl rfl rfl
  exact (rss_cons (rs_if (rt_cmp (og_eq hu64) (re_ix (re_var 0) re_int) re_str) (rss_one (rs_ret (re_bin og_add re_str (re_ix (re_var 0) re_int)))) rss_nil)
   (rss_one (rs_ret (re_if (rt_tru (re_isi (by rfl) T.n_isinstance (by rfl) T.n_int (by decide +kernel) (re_ix (re_var 0) re_int))) (re_callTy cr_strT (by rfl) T.n_str (by decide +kernel) (ra_cons (re_ix (re_var 0) re_int) ra_nil)) (re_bin og_add (re_bin og_add re_str (re_ix (re_var 0) re_int)) re_str)))))
theorem ok_q1 (T:Tx K mg w):FnOk P w K mg base (L2.CX P w) 2 T.t_q1.a T.t_q1.d ["_law_word", "_law_terms"] (spD P w K mg 2 m_q1):=fn_body (k:=1) T.t_q1.F sc_q1 rfl fun cdv A outer s H Q E hr => by
  have nd:=sc_q1.nd
  have hu1:=hu_of hr
  have hu64:=hr.units
  have hu65:=hu65_of hr
  have tk:=takes_of (X:=cxOf (L2.CX P w) P w K mg base ["_law_word", "_law_terms", "_law_term_here"] "_law_atom_shown" (defScope (topS 51)) T.t_q1.a cdv A outer s H E) (E:=E) rfl rfl rfl rfl
  exact (rss_one (rs_ret (re_bm PySem.F.plainAttrs_str PySem.F.slot_str_join PySem.F.type_str_join om_join re_str (ra_cons (re_bin og_add (re_lst (ra_cons (re_var 0) ra_nil)) (re_lc (own:=[("_law_term_here",2)]) rfl nd (ri_seq (re_var 1)) (blkOk_by (own:=[("_law_term_here",2)]) (N:=["_law_word", "_law_terms", "_law_term_here"]) (sc:=defScope (topS 51)) (by decide +kernel)) (fun _ _ _ _ _ => (rg_name 2 nd rfl (by first | exact .inl rfl | exact .inr rfl))) (fun _ _ _ _ _ => rts_nil) (fun _ _ _ _ _ => (re_call (ok_q3 T) (hr.mono (by omega)) (by rfl) T.t_q3.g T.t_q3.F.kp T.t_q3.b takes0 (ra_cons (re_var 2) ra_nil) (aC_len aN_len))) (by decide))) ra_nil))))
theorem ok_q0 (T:Tx K mg w):FnOk P w K mg base (L2.CX P w) 3 T.t_q0.a T.t_q0.d ["_law_lots"] (spD P w K mg 1 m_q0):=fn_body (k:=2) T.t_q0.F sc_q0 rfl fun cdv A outer s H Q E hr => by
  have nd:=sc_q0.nd
  have hu1:=hu_of hr
  have hu64:=hr.units
  have hu65:=hu65_of hr
  have tk:=takes_of (X:=cxOf (L2.CX P w) P w K mg base ["_law_lots", "_law_found", "_law_head", "_law_body", "_law_some", "_law_tail", "_law_word", "_law_terms", "_law_truth"] "_law_rules_shown" (defScope (topS 52)) T.t_q0.a cdv A outer s H E) (E:=E) rfl rfl rfl rfl
  exact (rss_cons (rs_set 1 nd rfl (by first | exact .inl rfl | exact .inr rfl) (re_lst ra_nil))
   (rss_cons (rs_for (passes_of rfl) rfl (ri_seq (re_var 0)) (rg_tup rfl (rgs_cons (rg_name 2 nd rfl (by first | exact .inl rfl | exact .inr rfl)) (rgs_cons (rg_name 3 nd rfl (by first | exact .inl rfl | exact .inr rfl)) rgs_nil))) (rss_cons (rs_set 4 nd rfl (by first | exact .inl rfl | exact .inr rfl) (re_lst ra_nil))
   (rss_cons (rs_for (passes_of rfl) rfl (ri_seq (re_var 3)) (rg_tup rfl (rgs_cons (rg_name 6 nd rfl (by first | exact .inl rfl | exact .inr rfl)) (rgs_cons (rg_name 7 nd rfl (by first | exact .inl rfl | exact .inr rfl)) (rgs_cons (rg_name 8 nd rfl (by first | exact .inl rfl | exact .inr rfl)) rgs_nil)))) (rss_one (rs_expr (re_bm PySem.F.plainAttrs_list PySem.F.slot_list_append PySem.F.type_list_append om_append (re_var 4) (ra_cons (re_bin og_add (re_ix (re_lst (ra_cons re_str (ra_cons re_str ra_nil))) (re_callTy cr_int (by rfl) T.n_int (by decide +kernel) (ra_cons (re_var 8) ra_nil))) (re_call (ok_q1 T) (hr.mono (by omega)) (by rfl) T.t_q1.g T.t_q1.F.kp T.t_q1.b tk (ra_cons (re_var 6) (ra_cons (re_var 7) ra_nil)) (aC_len (aC_len aN_len)))) ra_nil)))))
   (rss_cons (rs_set 5 nd rfl (by first | exact .inl rfl | exact .inr rfl) (re_if (rt_cmp (og_eqNil hu64) (re_var 4) (re_lst ra_nil)) re_str (re_bin og_add re_str (re_bm PySem.F.plainAttrs_str PySem.F.slot_str_join PySem.F.type_str_join om_join re_str (ra_cons (re_var 4) ra_nil)))))
   (rss_one (rs_expr (re_bm PySem.F.plainAttrs_list PySem.F.slot_list_append PySem.F.type_list_append om_append (re_var 1) (ra_cons (re_bin og_add (re_call (ok_q1 T) (hr.mono (by omega)) (by rfl) T.t_q1.g T.t_q1.F.kp T.t_q1.b tk (ra_cons (re_ix (re_var 2) re_int) (ra_cons (re_ix (re_var 2) re_int) ra_nil)) (aC_len (aC_len aN_len))) (re_var 5)) ra_nil))))))))
   (rss_one (rs_ret (re_if (rt_cmp (og_eqNil hu64) (re_var 1) (re_lst ra_nil)) re_str (re_bm PySem.F.plainAttrs_str PySem.F.slot_str_join PySem.F.type_str_join om_join re_str (ra_cons (re_var 1) ra_nil)))))))
theorem ok_law (T:Tx K mg w):FnOk P w K mg base (L2.CX P w) 16 T.t_law.a T.t_law.d ["_law_script"] (spD P w K mg 1 m_law):=fn_body (k:=15) T.t_law.F sc_law rfl fun cdv A outer s H Q E hr => by
  have nd:=sc_law.nd
  have hu1:=hu_of hr
  have hu64:=hr.units
  have hu65:=hu65_of hr
  have tk:=takes_of (X:=cxOf (L2.CX P w) P w K mg base ["_law_script", "_law_tray_here", "_law_k", "_law_names_here", "_law_some", "_law_due", "_law_head", "_law_words", "_law_one", "_law_literal"] "law" (defScope (topS 53)) T.t_law.a cdv A outer s H E) (E:=E) rfl rfl rfl rfl
  exact (rss_cons (rs_set 1 nd rfl (by first | exact .inl rfl | exact .inr rfl) (re_call (ok_q21 T) (hr.mono (by omega)) (by rfl) T.t_q21.g T.t_q21.F.kp T.t_q21.b tk (ra_cons (re_var 0) ra_nil) (aC_len aN_len)))
   (rss_cons (rs_for (passes_of rfl) rfl (ri_range1 (by rfl) T.n_range (re_bin og_add re_int (re_callB cr_len (by rfl) T.n_len (by decide +kernel) (ra_cons (re_slice (re_var 0) ro_none (ro_some re_int)) ra_nil)))) (rg_name 2 nd rfl (by first | exact .inl rfl | exact .inr rfl)) (rss_cons (rs_set 3 nd rfl (by first | exact .inl rfl | exact .inr rfl) (re_bin og_add (re_lst (ra_cons (re_call (ok_q18 T) (hr.mono (by omega)) (by rfl) T.t_q18.g T.t_q18.F.kp T.t_q18.b tk (ra_cons (re_var 1) ra_nil) (aC_len aN_len)) ra_nil)) (re_call (ok_q8 T) (hr.mono (by omega)) (by rfl) T.t_q8.g T.t_q8.F.kp T.t_q8.b tk (ra_cons (re_var 1) (ra_cons (re_call (ok_q16 T) (hr.mono (by omega)) (by rfl) T.t_q16.g T.t_q16.F.kp T.t_q16.b tk (ra_cons (re_var 1) (ra_cons re_int ra_nil)) (aC_len (aC_len aN_len))) (ra_cons (re_lst ra_nil) ra_nil))) (aC_len (aC_len (aC_len aN_len))))))
   (rss_cons (rs_set 4 nd rfl (by first | exact .inl rfl | exact .inr rfl) (re_slice (re_call (ok_q11 T) (hr.mono (by omega)) (by rfl) T.t_q11.g T.t_q11.F.kp T.t_q11.b tk (ra_cons (re_var 1) (ra_cons (re_var 3) ra_nil)) (aC_len (aC_len aN_len))) (ro_some (re_call (ok_q16 T) (hr.mono (by omega)) (by rfl) T.t_q16.g T.t_q16.F.kp T.t_q16.b tk (ra_cons (re_var 1) (ra_cons re_int ra_nil)) (aC_len (aC_len aN_len)))) ro_none))
   (rss_cons (rs_if (rt_cmp (og_eq hu64) (re_call (ok_q16 T) (hr.mono (by omega)) (by rfl) T.t_q16.g T.t_q16.F.kp T.t_q16.b tk (ra_cons (re_var 1) (ra_cons re_int ra_nil)) (aC_len (aC_len aN_len))) re_int) (rss_cons (rs_set 6 nd rfl (by first | exact .inl rfl | exact .inr rfl) (re_slice (re_bin og_add (re_ix (re_call (ok_q8 T) (hr.mono (by omega)) (by rfl) T.t_q8.g T.t_q8.F.kp T.t_q8.b tk (ra_cons (re_var 1) (ra_cons re_int (ra_cons (re_bin og_add (re_sortDk rfl (by rfl) T.n_sorted (re_call0 (ok_q6 T) (hr.mono (by omega)) (by rfl) T.t_q6.g T.t_q6.F.kp T.t_q6.b tk)) (re_lst (ra_cons re_str (ra_cons re_str ra_nil)))) ra_nil))) (aC_len (aC_len (aC_len aN_len)))) re_int) re_str) (ro_some (re_neg re_int)) ro_none))
   (rss_cons (rs_setLc 7 (own:=[("_law_one",8)]) rfl nd rfl rfl (sw_true rfl rfl rfl (by decide +kernel)) (ri_seq (re_var 4)) (blkOk_by (own:=[("_law_one",8)]) (N:=["_law_script", "_law_tray_here", "_law_k", "_law_names_here", "_law_some", "_law_due", "_law_head", "_law_words", "_law_one", "_law_literal"]) (sc:=defScope (topS 53)) (by decide +kernel)) (fun _ _ _ _ _ => (rg_name 8 nd rfl (by first | exact .inl rfl | exact .inr rfl))) (fun _ _ _ _ _ => rts_nil) (fun _ _ _ _ _ => (re_ix (re_ix (re_var 8) re_int) re_int)) (by decide))
   (rss_cons (rs_for (passes_of rfl) rfl (ri_seq (re_var 4)) (rg_name 8 nd rfl (by first | exact .inl rfl | exact .inr rfl)) (rss_one (rs_set 7 nd rfl (by first | exact .inl rfl | exact .inr rfl) (re_bin og_add (re_var 7) (re_lc (own:=[("_law_literal",9)]) rfl nd (ri_seq (re_ix (re_var 8) re_int)) (blkOk_by (own:=[("_law_literal",9)]) (N:=["_law_script", "_law_tray_here", "_law_k", "_law_names_here", "_law_some", "_law_due", "_law_head", "_law_words", "_law_one", "_law_literal"]) (sc:=defScope (topS 53)) (by decide +kernel)) (fun _ _ _ _ _ => (rg_name 9 nd rfl (by first | exact .inl rfl | exact .inr rfl))) (fun _ _ _ _ _ => rts_nil) (fun _ _ _ _ _ => (re_ix (re_var 9) re_int)) (by decide))))))
   (rss_one (rs_if (rt_cmp (og_notIn hu65) (re_var 6) (re_bin og_add (re_bin og_add (re_var 7) (re_sortDk rfl (by rfl) T.n_sorted (re_call0 (ok_q6 T) (hr.mono (by omega)) (by rfl) T.t_q6.g T.t_q6.F.kp T.t_q6.b tk))) (re_lst (ra_cons re_str (ra_cons re_str ra_nil))))) (rss_one (rs_set 4 nd rfl (by first | exact .inl rfl | exact .inr rfl) (re_bin og_add (re_var 4) (re_tup (ra_cons (re_tup (ra_cons (re_tup (ra_cons (re_var 6) (ra_cons (re_tup (ra_cons (re_tup (ra_cons re_str (ra_cons (re_call (ok_q14 T) (hr.mono (by omega)) (by rfl) T.t_q14.g T.t_q14.F.kp T.t_q14.b tk (ra_cons (re_var 1) ra_nil) (aC_len aN_len)) ra_nil))) (ra_cons (re_tup (ra_cons re_str (ra_cons (re_ix (re_var 3) re_int) ra_nil))) ra_nil))) ra_nil))) (ra_cons (re_tup ra_nil) ra_nil))) ra_nil))))) rss_nil))))) rss_nil)
   (rss_cons (rs_set 5 nd rfl (by first | exact .inl rfl | exact .inr rfl) (re_call (ok_q0 T) (hr.mono (by omega)) (by rfl) T.t_q0.g T.t_q0.F.kp T.t_q0.b tk (ra_cons (re_var 4) ra_nil) (aC_len aN_len)))
   (rss_cons (rs_if (rt_of (rw_or (rt_not (rt_tru (re_call (ok_q10 T 14) (hr.mono (by omega)) (by rfl) T.t_q10.g T.t_q10.F.kp T.t_q10.b tk (ra_cons (re_call (ok_q13 T) (hr.mono (by omega)) (by rfl) T.t_q13.g T.t_q13.F.kp T.t_q13.b tk (ra_cons (re_var 4) ra_nil) (aC_len aN_len)) (ra_cons (re_var 5) ra_nil)) (aC_len (aC_len aN_len))))) (rw_or1 (rt_not (rt_tru (re_call (ok_q10 T 14) (hr.mono (by omega)) (by rfl) T.t_q10.g T.t_q10.F.kp T.t_q10.b tk (ra_cons (re_callKw (gP:=(fun qs => match qs with | [x0] => [x0] | _ => [])) (ok_q13 T) (hr.mono (by omega)) (by rfl) T.t_q13.g T.t_q13.F.kp T.kf_show_rules_0_rules tk kbgp_show_rules_0_rules (rk_cons (re_var 4) rk_nil) (aC_len aN_len)) (ra_cons (re_var 5) ra_nil)) (aC_len (aC_len aN_len)))))))) (rss_one (rs_ret re_bl)) rss_nil)
   (rss_one (rs_if (rt_cmp og_le (re_callB cr_len (by rfl) T.n_len (by decide +kernel) (ra_cons (re_var 5) ra_nil)) re_int) (rss_one (rs_if (rt_of (rw_or (rt_not (rt_tru (re_call (ok_q10 T 14) (hr.mono (by omega)) (by rfl) T.t_q10.g T.t_q10.F.kp T.t_q10.b tk (ra_cons (re_call (ok_q7 T) (hr.mono (by omega)) (by rfl) T.t_q7.g T.t_q7.F.kp T.t_q7.b tk (ra_cons (re_var 5) ra_nil) (aC_len aN_len)) (ra_cons (re_var 4) ra_nil)) (aC_len (aC_len aN_len))))) (rw_or1 (rt_not (rt_tru (re_call (ok_q10 T 14) (hr.mono (by omega)) (by rfl) T.t_q10.g T.t_q10.F.kp T.t_q10.b tk (ra_cons (re_callKw (gP:=(fun qs => match qs with | [x0] => [x0] | _ => [])) (ok_q7 T) (hr.mono (by omega)) (by rfl) T.t_q7.g T.t_q7.F.kp T.kf_read_rules_0_text tk kbgp_read_rules_0_text (rk_cons (re_var 5) rk_nil) (aC_len aN_len)) (ra_cons (re_var 4) ra_nil)) (aC_len (aC_len aN_len)))))))) (rss_one (rs_ret re_bl)) rss_nil)) rss_nil))))))))
   (rss_one (rs_ret re_bl))))
end
set_option maxHeartbeats 4000000 in
noncomputable def mkTx {K:PySem.W.Frag} {w:World} {h:Heap} {mg:Str→Option Value} (X:K.In h) (G:h.Ns mainGlobals mg) {f_q15:Addr} {oc_q15 kV_q15 dc_q15 pm_q15 cd_q15 ct_q15:Value} {od_q15 an_q15:Option Addr} {sl_q15:Array (Option Value)} {f_q20:Addr} {oc_q20 kV_q20 dc_q20 pm_q20 cd_q20 ct_q20:Value} {od_q20 an_q20:Option Addr} {sl_q20:Array (Option Value)} {f_q5:Addr} {oc_q5 kV_q5 dc_q5 pm_q5 cd_q5 ct_q5:Value} {od_q5 an_q5:Option Addr} {sl_q5:Array (Option Value)} {f_q23:Addr} {oc_q23 kV_q23 dc_q23 pm_q23 cd_q23 ct_q23:Value} {od_q23 an_q23:Option Addr} {sl_q23:Array (Option Value)} {f_q13:Addr} {oc_q13 kV_q13 dc_q13 pm_q13 cd_q13 ct_q13:Value} {od_q13 an_q13:Option Addr} {sl_q13:Array (Option Value)} {f_q32:Addr} {oc_q32 kV_q32 dc_q32 pm_q32 cd_q32 ct_q32:Value} {od_q32 an_q32:Option Addr} {sl_q32:Array (Option Value)} {f_q27:Addr} {oc_q27 kV_q27 dc_q27 pm_q27 cd_q27 ct_q27:Value} {od_q27 an_q27:Option Addr} {sl_q27:Array (Option Value)} {f_q26:Addr} {oc_q26 kV_q26 dc_q26 pm_q26 cd_q26 ct_q26:Value} {od_q26 an_q26:Option Addr} {sl_q26:Array (Option Value)} {f_q29:Addr} {oc_q29 kV_q29 dc_q29 pm_q29 cd_q29 ct_q29:Value} {od_q29 an_q29:Option Addr} {sl_q29:Array (Option Value)} {f_q30:Addr} {oc_q30 kV_q30 dc_q30 pm_q30 cd_q30 ct_q30:Value} {od_q30 an_q30:Option Addr} {sl_q30:Array (Option Value)} {f_q24:Addr} {oc_q24 kV_q24 dc_q24 pm_q24 cd_q24 ct_q24:Value} {od_q24 an_q24:Option Addr} {sl_q24:Array (Option Value)} {f_q28:Addr} {oc_q28 kV_q28 dc_q28 pm_q28 cd_q28 ct_q28:Value} {od_q28 an_q28:Option Addr} {sl_q28:Array (Option Value)} {f_q4:Addr} {oc_q4 kV_q4 dc_q4 pm_q4 cd_q4 ct_q4:Value} {od_q4 an_q4:Option Addr} {sl_q4:Array (Option Value)} {f_q35:Addr} {oc_q35 kV_q35 dc_q35 pm_q35 cd_q35 ct_q35:Value} {od_q35 an_q35:Option Addr} {sl_q35:Array (Option Value)} {f_q25:Addr} {oc_q25 kV_q25 dc_q25 pm_q25 cd_q25 ct_q25:Value} {od_q25 an_q25:Option Addr} {sl_q25:Array (Option Value)} {f_q33:Addr} {oc_q33 kV_q33 dc_q33 pm_q33 cd_q33 ct_q33:Value} {od_q33 an_q33:Option Addr} {sl_q33:Array (Option Value)} {f_q31:Addr} {oc_q31 kV_q31 dc_q31 pm_q31 cd_q31 ct_q31:Value} {od_q31 an_q31:Option Addr} {sl_q31:Array (Option Value)} {f_q12:Addr} {oc_q12 kV_q12 dc_q12 pm_q12 cd_q12 ct_q12:Value} {od_q12 an_q12:Option Addr} {sl_q12:Array (Option Value)} {f_q34:Addr} {oc_q34 kV_q34 dc_q34 pm_q34 cd_q34 ct_q34:Value} {od_q34 an_q34:Option Addr} {sl_q34:Array (Option Value)} {f_q7:Addr} {oc_q7 kV_q7 dc_q7 pm_q7 cd_q7 ct_q7:Value} {od_q7 an_q7:Option Addr} {sl_q7:Array (Option Value)} {f_q21:Addr} {oc_q21 kV_q21 dc_q21 pm_q21 cd_q21 ct_q21:Value} {od_q21 an_q21:Option Addr} {sl_q21:Array (Option Value)} {f_q16:Addr} {oc_q16 kV_q16 dc_q16 pm_q16 cd_q16 ct_q16:Value} {od_q16 an_q16:Option Addr} {sl_q16:Array (Option Value)} {f_q9:Addr} {oc_q9 kV_q9 dc_q9 pm_q9 cd_q9 ct_q9:Value} {od_q9 an_q9:Option Addr} {sl_q9:Array (Option Value)} {f_q10:Addr} {oc_q10 kV_q10 dc_q10 pm_q10 cd_q10 ct_q10:Value} {od_q10 an_q10:Option Addr} {sl_q10:Array (Option Value)} {f_q19:Addr} {oc_q19 kV_q19 dc_q19 pm_q19 cd_q19 ct_q19:Value} {od_q19 an_q19:Option Addr} {sl_q19:Array (Option Value)} {f_q8:Addr} {oc_q8 kV_q8 dc_q8 pm_q8 cd_q8 ct_q8:Value} {od_q8 an_q8:Option Addr} {sl_q8:Array (Option Value)} {f_q14:Addr} {oc_q14 kV_q14 dc_q14 pm_q14 cd_q14 ct_q14:Value} {od_q14 an_q14:Option Addr} {sl_q14:Array (Option Value)} {f_q6:Addr} {oc_q6 kV_q6 dc_q6 pm_q6 cd_q6 ct_q6:Value} {od_q6 an_q6:Option Addr} {sl_q6:Array (Option Value)} {f_q17:Addr} {oc_q17 kV_q17 dc_q17 pm_q17 cd_q17 ct_q17:Value} {od_q17 an_q17:Option Addr} {sl_q17:Array (Option Value)} {f_q2:Addr} {oc_q2 kV_q2 dc_q2 pm_q2 cd_q2 ct_q2:Value} {od_q2 an_q2:Option Addr} {sl_q2:Array (Option Value)} {f_q18:Addr} {oc_q18 kV_q18 dc_q18 pm_q18 cd_q18 ct_q18:Value} {od_q18 an_q18:Option Addr} {sl_q18:Array (Option Value)} {f_q22:Addr} {oc_q22 kV_q22 dc_q22 pm_q22 cd_q22 ct_q22:Value} {od_q22 an_q22:Option Addr} {sl_q22:Array (Option Value)} {f_q11:Addr} {oc_q11 kV_q11 dc_q11 pm_q11 cd_q11 ct_q11:Value} {od_q11 an_q11:Option Addr} {sl_q11:Array (Option Value)} {f_q3:Addr} {oc_q3 kV_q3 dc_q3 pm_q3 cd_q3 ct_q3:Value} {od_q3 an_q3:Option Addr} {sl_q3:Array (Option Value)} {f_q1:Addr} {oc_q1 kV_q1 dc_q1 pm_q1 cd_q1 ct_q1:Value} {od_q1 an_q1:Option Addr} {sl_q1:Array (Option Value)} {f_q0:Addr} {oc_q0 kV_q0 dc_q0 pm_q0 cd_q0 ct_q0:Value} {od_q0 an_q0:Option Addr} {sl_q0:Array (Option Value)} {f_law:Addr} {oc_law kV_law dc_law pm_law cd_law ct_law:Value} {od_law an_law:Option Addr} {sl_law:Array (Option Value)} {f_einit:Addr} {oc_einit kV_einit dc_einit pm_einit cd_einit ct_einit:Value} {od_einit an_einit:Option Addr} {sl_einit:Array (Option Value)} {E_NoRules N_NoRules:Addr} {nm_NoRules qn_NoRules:Str} {bs_NoRules bm_NoRules sub_NoRules:List Value} {sn_NoRules:List Str} {ab_NoRules:Bool} {col_NoRules:Option Bool} {dd_NoRules:Option Addr} {m0_NoRules m1_NoRules m2_NoRules m3_NoRules m5_NoRules:Option Value} {E_NoText N_NoText:Addr} {nm_NoText qn_NoText:Str} {bs_NoText bm_NoText sub_NoText:List Value} {sn_NoText:List Str} {ab_NoText:Bool} {col_NoText:Option Bool} {dd_NoText:Option Addr} {m0_NoText m1_NoText m2_NoText m3_NoText m5_NoText:Option Value} {E_AskError N_AskError:Addr} {nm_AskError qn_AskError:Str} {bs_AskError bm_AskError sub_AskError:List Value} {sn_AskError:List Str} {ab_AskError:Bool} {col_AskError:Option Bool} {dd_AskError:Option Addr} {m0_AskError m1_AskError m2_AskError m3_AskError m5_AskError:Option Value} {k_LETTERS:Tok} {k_MOST_LETTERS:Tok} {k_SAME:Tok} {k_FIGURES:Tok} {k_MOST_FIGURES:Tok} {k_MOST_TEXT:Tok} {D_NO_RELATIONS:Addr} {it_NO_RELATIONS:Array Value} {np_NO_RELATIONS:Nat} {sl_NO_RELATIONS:Array (Option Value)} {D_ROOMS:Addr} {en_ROOMS:Array DictEntry} {ep_ROOMS:Nat}
 (l_q15:K.lookup f_q15 = some ⟨oc_q15,od_q15,.func (PySem.W.fnOf "show_term" "show_term" (defArgs (topS 1)) (defBody (topS 1)) (defScope (topS 1)) .none kV_q15 dc_q15 pm_q15 an_q15 cd_q15 ct_q15),sl_q15⟩) (c_q15:PySem.W.codeIn K cd_q15 "show_term" = true) (k_q15:PySem.W.keepIn K (.ref f_q15) = true)
 (a_q15:PySem.W.nsIn K mainGlobals "show_term" = some (some (.ref f_q15)))
 (l_q20:K.lookup f_q20 = some ⟨oc_q20,od_q20,.func (PySem.W.fnOf "show_atom" "show_atom" (defArgs (topS 2)) (defBody (topS 2)) (defScope (topS 2)) .none kV_q20 dc_q20 pm_q20 an_q20 cd_q20 ct_q20),sl_q20⟩) (c_q20:PySem.W.codeIn K cd_q20 "show_atom" = true) (k_q20:PySem.W.keepIn K (.ref f_q20) = true)
 (a_q20:PySem.W.nsIn K mainGlobals "show_atom" = some (some (.ref f_q20)))
 (l_q5:K.lookup f_q5 = some ⟨oc_q5,od_q5,.func (PySem.W.fnOf "show_literal" "show_literal" (defArgs (topS 3)) (defBody (topS 3)) (defScope (topS 3)) .none kV_q5 dc_q5 pm_q5 an_q5 cd_q5 ct_q5),sl_q5⟩) (c_q5:PySem.W.codeIn K cd_q5 "show_literal" = true) (k_q5:PySem.W.keepIn K (.ref f_q5) = true)
 (a_q5:PySem.W.nsIn K mainGlobals "show_literal" = some (some (.ref f_q5)))
 (l_q23:K.lookup f_q23 = some ⟨oc_q23,od_q23,.func (PySem.W.fnOf "show_rule" "show_rule" (defArgs (topS 4)) (defBody (topS 4)) (defScope (topS 4)) .none kV_q23 dc_q23 pm_q23 an_q23 cd_q23 ct_q23),sl_q23⟩) (c_q23:PySem.W.codeIn K cd_q23 "show_rule" = true) (k_q23:PySem.W.keepIn K (.ref f_q23) = true)
 (a_q23:PySem.W.nsIn K mainGlobals "show_rule" = some (some (.ref f_q23)))
 (l_q13:K.lookup f_q13 = some ⟨oc_q13,od_q13,.func (PySem.W.fnOf "show_rules" "show_rules" (defArgs (topS 5)) (defBody (topS 5)) (defScope (topS 5)) .none kV_q13 dc_q13 pm_q13 an_q13 cd_q13 ct_q13),sl_q13⟩) (c_q13:PySem.W.codeIn K cd_q13 "show_rules" = true) (k_q13:PySem.W.keepIn K (.ref f_q13) = true)
 (a_q13:PySem.W.nsIn K mainGlobals "show_rules" = some (some (.ref f_q13)))
 (l_q32:K.lookup f_q32 = some ⟨oc_q32,od_q32,.func (PySem.W.fnOf "is_name" "is_name" (defArgs (topS 13)) (defBody (topS 13)) (defScope (topS 13)) .none kV_q32 dc_q32 pm_q32 an_q32 cd_q32 ct_q32),sl_q32⟩) (c_q32:PySem.W.codeIn K cd_q32 "is_name" = true) (k_q32:PySem.W.keepIn K (.ref f_q32) = true)
 (a_q32:PySem.W.nsIn K mainGlobals "is_name" = some (some (.ref f_q32)))
 (l_q27:K.lookup f_q27 = some ⟨oc_q27,od_q27,.func (PySem.W.fnOf "heads_of" "heads_of" (defArgs (topS 17)) (defBody (topS 17)) (defScope (topS 17)) .none kV_q27 dc_q27 pm_q27 an_q27 cd_q27 ct_q27),sl_q27⟩) (c_q27:PySem.W.codeIn K cd_q27 "heads_of" = true) (k_q27:PySem.W.keepIn K (.ref f_q27) = true)
 (a_q27:PySem.W.nsIn K mainGlobals "heads_of" = some (some (.ref f_q27)))
 (l_q26:K.lookup f_q26 = some ⟨oc_q26,od_q26,.func (PySem.W.fnOf "names_of" "names_of" (defArgs (topS 18)) (defBody (topS 18)) (defScope (topS 18)) .none kV_q26 dc_q26 pm_q26 an_q26 cd_q26 ct_q26),sl_q26⟩) (c_q26:PySem.W.codeIn K cd_q26 "names_of" = true) (k_q26:PySem.W.keepIn K (.ref f_q26) = true)
 (a_q26:PySem.W.nsIn K mainGlobals "names_of" = some (some (.ref f_q26)))
 (l_q29:K.lookup f_q29 = some ⟨oc_q29,od_q29,.func (PySem.W.fnOf "is_asked" "is_asked" (defArgs (topS 19)) (defBody (topS 19)) (defScope (topS 19)) .none kV_q29 dc_q29 pm_q29 an_q29 cd_q29 ct_q29),sl_q29⟩) (c_q29:PySem.W.codeIn K cd_q29 "is_asked" = true) (k_q29:PySem.W.keepIn K (.ref f_q29) = true)
 (a_q29:PySem.W.nsIn K mainGlobals "is_asked" = some (some (.ref f_q29)))
 (l_q30:K.lookup f_q30 = some ⟨oc_q30,od_q30,.func (PySem.W.fnOf "is_many" "is_many" (defArgs (topS 20)) (defBody (topS 20)) (defScope (topS 20)) .none kV_q30 dc_q30 pm_q30 an_q30 cd_q30 ct_q30),sl_q30⟩) (c_q30:PySem.W.codeIn K cd_q30 "is_many" = true) (k_q30:PySem.W.keepIn K (.ref f_q30) = true)
 (a_q30:PySem.W.nsIn K mainGlobals "is_many" = some (some (.ref f_q30)))
 (l_q24:K.lookup f_q24 = some ⟨oc_q24,od_q24,.func (PySem.W.fnOf "is_loose" "is_loose" (defArgs (topS 21)) (defBody (topS 21)) (defScope (topS 21)) .none kV_q24 dc_q24 pm_q24 an_q24 cd_q24 ct_q24),sl_q24⟩) (c_q24:PySem.W.codeIn K cd_q24 "is_loose" = true) (k_q24:PySem.W.keepIn K (.ref f_q24) = true)
 (a_q24:PySem.W.nsIn K mainGlobals "is_loose" = some (some (.ref f_q24)))
 (l_q28:K.lookup f_q28 = some ⟨oc_q28,od_q28,.func (PySem.W.fnOf "links_of" "links_of" (defArgs (topS 22)) (defBody (topS 22)) (defScope (topS 22)) .none kV_q28 dc_q28 pm_q28 an_q28 cd_q28 ct_q28),sl_q28⟩) (c_q28:PySem.W.codeIn K cd_q28 "links_of" = true) (k_q28:PySem.W.keepIn K (.ref f_q28) = true)
 (a_q28:PySem.W.nsIn K mainGlobals "links_of" = some (some (.ref f_q28)))
 (l_q4:K.lookup f_q4 = some ⟨oc_q4,od_q4,.func (PySem.W.fnOf "reached_from" "reached_from" (defArgs (topS 23)) (defBody (topS 23)) (defScope (topS 23)) .none kV_q4 dc_q4 pm_q4 an_q4 cd_q4 ct_q4),sl_q4⟩) (c_q4:PySem.W.codeIn K cd_q4 "reached_from" = true) (k_q4:PySem.W.keepIn K (.ref f_q4) = true)
 (a_q4:PySem.W.nsIn K mainGlobals "reached_from" = some (some (.ref f_q4)))
 (l_q35:K.lookup f_q35 = some ⟨oc_q35,od_q35,.func (PySem.W.fnOf "look" "look" (defArgs (topS 24)) (defBody (topS 24)) (defScope (topS 24)) .none kV_q35 dc_q35 pm_q35 an_q35 cd_q35 ct_q35),sl_q35⟩) (c_q35:PySem.W.codeIn K cd_q35 "look" = true) (k_q35:PySem.W.keepIn K (.ref f_q35) = true)
 (a_q35:PySem.W.nsIn K mainGlobals "look" = some (some (.ref f_q35)))
 (l_q25:K.lookup f_q25 = some ⟨oc_q25,od_q25,.func (PySem.W.fnOf "whole_in" "whole_in" (defArgs (topS 30)) (defBody (topS 30)) (defScope (topS 30)) .none kV_q25 dc_q25 pm_q25 an_q25 cd_q25 ct_q25),sl_q25⟩) (c_q25:PySem.W.codeIn K cd_q25 "whole_in" = true) (k_q25:PySem.W.keepIn K (.ref f_q25) = true)
 (a_q25:PySem.W.nsIn K mainGlobals "whole_in" = some (some (.ref f_q25)))
 (l_q33:K.lookup f_q33 = some ⟨oc_q33,od_q33,.func (PySem.W.fnOf "term_in" "term_in" (defArgs (topS 31)) (defBody (topS 31)) (defScope (topS 31)) .none kV_q33 dc_q33 pm_q33 an_q33 cd_q33 ct_q33),sl_q33⟩) (c_q33:PySem.W.codeIn K cd_q33 "term_in" = true) (k_q33:PySem.W.keepIn K (.ref f_q33) = true)
 (a_q33:PySem.W.nsIn K mainGlobals "term_in" = some (some (.ref f_q33)))
 (l_q31:K.lookup f_q31 = some ⟨oc_q31,od_q31,.func (PySem.W.fnOf "atom_in" "atom_in" (defArgs (topS 32)) (defBody (topS 32)) (defScope (topS 32)) .none kV_q31 dc_q31 pm_q31 an_q31 cd_q31 ct_q31),sl_q31⟩) (c_q31:PySem.W.codeIn K cd_q31 "atom_in" = true) (k_q31:PySem.W.keepIn K (.ref f_q31) = true)
 (a_q31:PySem.W.nsIn K mainGlobals "atom_in" = some (some (.ref f_q31)))
 (l_q12:K.lookup f_q12 = some ⟨oc_q12,od_q12,.func (PySem.W.fnOf "literal_in" "literal_in" (defArgs (topS 33)) (defBody (topS 33)) (defScope (topS 33)) .none kV_q12 dc_q12 pm_q12 an_q12 cd_q12 ct_q12),sl_q12⟩) (c_q12:PySem.W.codeIn K cd_q12 "literal_in" = true) (k_q12:PySem.W.keepIn K (.ref f_q12) = true)
 (a_q12:PySem.W.nsIn K mainGlobals "literal_in" = some (some (.ref f_q12)))
 (l_q34:K.lookup f_q34 = some ⟨oc_q34,od_q34,.func (PySem.W.fnOf "rule_in" "rule_in" (defArgs (topS 34)) (defBody (topS 34)) (defScope (topS 34)) .none kV_q34 dc_q34 pm_q34 an_q34 cd_q34 ct_q34),sl_q34⟩) (c_q34:PySem.W.codeIn K cd_q34 "rule_in" = true) (k_q34:PySem.W.keepIn K (.ref f_q34) = true)
 (a_q34:PySem.W.nsIn K mainGlobals "rule_in" = some (some (.ref f_q34)))
 (l_q7:K.lookup f_q7 = some ⟨oc_q7,od_q7,.func (PySem.W.fnOf "read_rules" "read_rules" (defArgs (topS 35)) (defBody (topS 35)) (defScope (topS 35)) .none kV_q7 dc_q7 pm_q7 an_q7 cd_q7 ct_q7),sl_q7⟩) (c_q7:PySem.W.codeIn K cd_q7 "read_rules" = true) (k_q7:PySem.W.keepIn K (.ref f_q7) = true)
 (a_q7:PySem.W.nsIn K mainGlobals "read_rules" = some (some (.ref f_q7)))
 (l_q21:K.lookup f_q21 = some ⟨oc_q21,od_q21,.func (PySem.W.fnOf "_law_tray" "_law_tray" (defArgs (topS 37)) (defBody (topS 37)) (defScope (topS 37)) .none kV_q21 dc_q21 pm_q21 an_q21 cd_q21 ct_q21),sl_q21⟩) (c_q21:PySem.W.codeIn K cd_q21 "_law_tray" = true) (k_q21:PySem.W.keepIn K (.ref f_q21) = true)
 (a_q21:PySem.W.nsIn K mainGlobals "_law_tray" = some (some (.ref f_q21)))
 (l_q16:K.lookup f_q16 = some ⟨oc_q16,od_q16,.func (PySem.W.fnOf "_law_draw" "_law_draw" (defArgs (topS 38)) (defBody (topS 38)) (defScope (topS 38)) .none kV_q16 dc_q16 pm_q16 an_q16 cd_q16 ct_q16),sl_q16⟩) (c_q16:PySem.W.codeIn K cd_q16 "_law_draw" = true) (k_q16:PySem.W.keepIn K (.ref f_q16) = true)
 (a_q16:PySem.W.nsIn K mainGlobals "_law_draw" = some (some (.ref f_q16)))
 (l_q9:K.lookup f_q9 = some ⟨oc_q9,od_q9,.func (PySem.W.fnOf "_law_great" "_law_great" (defArgs (topS 39)) (defBody (topS 39)) (defScope (topS 39)) .none kV_q9 dc_q9 pm_q9 an_q9 cd_q9 ct_q9),sl_q9⟩) (c_q9:PySem.W.codeIn K cd_q9 "_law_great" = true) (k_q9:PySem.W.keepIn K (.ref f_q9) = true)
 (a_q9:PySem.W.nsIn K mainGlobals "_law_great" = some (some (.ref f_q9)))
 (l_q10:K.lookup f_q10 = some ⟨oc_q10,od_q10,.func (PySem.W.fnOf "_law_alike" "_law_alike" (defArgs (topS 40)) (defBody (topS 40)) (defScope (topS 40)) .none kV_q10 dc_q10 pm_q10 an_q10 cd_q10 ct_q10),sl_q10⟩) (c_q10:PySem.W.codeIn K cd_q10 "_law_alike" = true) (k_q10:PySem.W.keepIn K (.ref f_q10) = true)
 (a_q10:PySem.W.nsIn K mainGlobals "_law_alike" = some (some (.ref f_q10)))
 (l_q19:K.lookup f_q19 = some ⟨oc_q19,od_q19,.func (PySem.W.fnOf "_law_name" "_law_name" (defArgs (topS 41)) (defBody (topS 41)) (defScope (topS 41)) .none kV_q19 dc_q19 pm_q19 an_q19 cd_q19 ct_q19),sl_q19⟩) (c_q19:PySem.W.codeIn K cd_q19 "_law_name" = true) (k_q19:PySem.W.keepIn K (.ref f_q19) = true)
 (a_q19:PySem.W.nsIn K mainGlobals "_law_name" = some (some (.ref f_q19)))
 (l_q8:K.lookup f_q8 = some ⟨oc_q8,od_q8,.func (PySem.W.fnOf "_law_names" "_law_names" (defArgs (topS 42)) (defBody (topS 42)) (defScope (topS 42)) .none kV_q8 dc_q8 pm_q8 an_q8 cd_q8 ct_q8),sl_q8⟩) (c_q8:PySem.W.codeIn K cd_q8 "_law_names" = true) (k_q8:PySem.W.keepIn K (.ref f_q8) = true)
 (a_q8:PySem.W.nsIn K mainGlobals "_law_names" = some (some (.ref f_q8)))
 (l_q14:K.lookup f_q14 = some ⟨oc_q14,od_q14,.func (PySem.W.fnOf "_law_whole" "_law_whole" (defArgs (topS 43)) (defBody (topS 43)) (defScope (topS 43)) .none kV_q14 dc_q14 pm_q14 an_q14 cd_q14 ct_q14),sl_q14⟩) (c_q14:PySem.W.codeIn K cd_q14 "_law_whole" = true) (k_q14:PySem.W.keepIn K (.ref f_q14) = true)
 (a_q14:PySem.W.nsIn K mainGlobals "_law_whole" = some (some (.ref f_q14)))
 (l_q6:K.lookup f_q6 = some ⟨oc_q6,od_q6,.func (PySem.W.fnOf "_law_tables" "_law_tables" (defArgs (topS 44)) (defBody (topS 44)) (defScope (topS 44)) .none kV_q6 dc_q6 pm_q6 an_q6 cd_q6 ct_q6),sl_q6⟩) (c_q6:PySem.W.codeIn K cd_q6 "_law_tables" = true) (k_q6:PySem.W.keepIn K (.ref f_q6) = true)
 (a_q6:PySem.W.nsIn K mainGlobals "_law_tables" = some (some (.ref f_q6)))
 (l_q17:K.lookup f_q17 = some ⟨oc_q17,od_q17,.func (PySem.W.fnOf "_law_term" "_law_term" (defArgs (topS 45)) (defBody (topS 45)) (defScope (topS 45)) .none kV_q17 dc_q17 pm_q17 an_q17 cd_q17 ct_q17),sl_q17⟩) (c_q17:PySem.W.codeIn K cd_q17 "_law_term" = true) (k_q17:PySem.W.keepIn K (.ref f_q17) = true)
 (a_q17:PySem.W.nsIn K mainGlobals "_law_term" = some (some (.ref f_q17)))
 (l_q2:K.lookup f_q2 = some ⟨oc_q2,od_q2,.func (PySem.W.fnOf "_law_free_names" "_law_free_names" (defArgs (topS 46)) (defBody (topS 46)) (defScope (topS 46)) .none kV_q2 dc_q2 pm_q2 an_q2 cd_q2 ct_q2),sl_q2⟩) (c_q2:PySem.W.codeIn K cd_q2 "_law_free_names" = true) (k_q2:PySem.W.keepIn K (.ref f_q2) = true)
 (a_q2:PySem.W.nsIn K mainGlobals "_law_free_names" = some (some (.ref f_q2)))
 (l_q18:K.lookup f_q18 = some ⟨oc_q18,od_q18,.func (PySem.W.fnOf "_law_long" "_law_long" (defArgs (topS 47)) (defBody (topS 47)) (defScope (topS 47)) .none kV_q18 dc_q18 pm_q18 an_q18 cd_q18 ct_q18),sl_q18⟩) (c_q18:PySem.W.codeIn K cd_q18 "_law_long" = true) (k_q18:PySem.W.keepIn K (.ref f_q18) = true)
 (a_q18:PySem.W.nsIn K mainGlobals "_law_long" = some (some (.ref f_q18)))
 (l_q22:K.lookup f_q22 = some ⟨oc_q22,od_q22,.func (PySem.W.fnOf "_law_rule" "_law_rule" (defArgs (topS 48)) (defBody (topS 48)) (defScope (topS 48)) .none kV_q22 dc_q22 pm_q22 an_q22 cd_q22 ct_q22),sl_q22⟩) (c_q22:PySem.W.codeIn K cd_q22 "_law_rule" = true) (k_q22:PySem.W.keepIn K (.ref f_q22) = true)
 (a_q22:PySem.W.nsIn K mainGlobals "_law_rule" = some (some (.ref f_q22)))
 (l_q11:K.lookup f_q11 = some ⟨oc_q11,od_q11,.func (PySem.W.fnOf "_law_rules" "_law_rules" (defArgs (topS 49)) (defBody (topS 49)) (defScope (topS 49)) .none kV_q11 dc_q11 pm_q11 an_q11 cd_q11 ct_q11),sl_q11⟩) (c_q11:PySem.W.codeIn K cd_q11 "_law_rules" = true) (k_q11:PySem.W.keepIn K (.ref f_q11) = true)
 (a_q11:PySem.W.nsIn K mainGlobals "_law_rules" = some (some (.ref f_q11)))
 (l_q3:K.lookup f_q3 = some ⟨oc_q3,od_q3,.func (PySem.W.fnOf "_law_term_shown" "_law_term_shown" (defArgs (topS 50)) (defBody (topS 50)) (defScope (topS 50)) .none kV_q3 dc_q3 pm_q3 an_q3 cd_q3 ct_q3),sl_q3⟩) (c_q3:PySem.W.codeIn K cd_q3 "_law_term_shown" = true) (k_q3:PySem.W.keepIn K (.ref f_q3) = true)
 (a_q3:PySem.W.nsIn K mainGlobals "_law_term_shown" = some (some (.ref f_q3)))
 (l_q1:K.lookup f_q1 = some ⟨oc_q1,od_q1,.func (PySem.W.fnOf "_law_atom_shown" "_law_atom_shown" (defArgs (topS 51)) (defBody (topS 51)) (defScope (topS 51)) .none kV_q1 dc_q1 pm_q1 an_q1 cd_q1 ct_q1),sl_q1⟩) (c_q1:PySem.W.codeIn K cd_q1 "_law_atom_shown" = true) (k_q1:PySem.W.keepIn K (.ref f_q1) = true)
 (a_q1:PySem.W.nsIn K mainGlobals "_law_atom_shown" = some (some (.ref f_q1)))
 (l_q0:K.lookup f_q0 = some ⟨oc_q0,od_q0,.func (PySem.W.fnOf "_law_rules_shown" "_law_rules_shown" (defArgs (topS 52)) (defBody (topS 52)) (defScope (topS 52)) .none kV_q0 dc_q0 pm_q0 an_q0 cd_q0 ct_q0),sl_q0⟩) (c_q0:PySem.W.codeIn K cd_q0 "_law_rules_shown" = true) (k_q0:PySem.W.keepIn K (.ref f_q0) = true)
 (a_q0:PySem.W.nsIn K mainGlobals "_law_rules_shown" = some (some (.ref f_q0)))
 (l_law:K.lookup f_law = some ⟨oc_law,od_law,.func (PySem.W.fnOf "law" "law" (defArgs (topS 53)) (defBody (topS 53)) (defScope (topS 53)) .none kV_law dc_law pm_law an_law cd_law ct_law),sl_law⟩) (c_law:PySem.W.codeIn K cd_law "law" = true) (k_law:PySem.W.keepIn K (.ref f_law) = true)
 (a_law:PySem.W.nsIn K mainGlobals "law" = some (some (.ref f_law)))
 (l_einit:K.lookup f_einit = some ⟨oc_einit,od_einit,.func (PySem.W.fnOf "__init__" "AskError.__init__" (defArgs (inClass (topS 7) 0)) (defBody (inClass (topS 7) 0)) (defScope (inClass (topS 7) 0)) .none kV_einit dc_einit pm_einit an_einit cd_einit ct_einit),sl_einit⟩) (c_einit:PySem.W.codeIn K cd_einit "AskError.__init__" = true) (k_einit:PySem.W.keepIn K (.ref f_einit) = true) (ti_einit:PySem.W.typeIn K (.ref f_einit) = some (.type "function"))
 (cg:PySem.W.specialIn K (.builtin "object.__class__") "__get__" = some (some (.builtin "getset_descriptor.__get__"))) (cta:PySem.W.takesIn K (.builtin "object.__class__") = some true)
 (a_NoRules:PySem.W.nsIn K mainGlobals "NoRules" = some (some (.ref E_NoRules))) (xl_NoRules:K.lookup E_NoRules = some (PySem.excClassObj nm_NoRules qn_NoRules E_NoRules N_NoRules bs_NoRules bm_NoRules true sn_NoRules sub_NoRules ab_NoRules col_NoRules dd_NoRules m0_NoRules m1_NoRules m2_NoRules m3_NoRules m5_NoRules "ValueError.__new__")) (rv_NoRules:PySem.HandSPX.refsVE bm_NoRules = true)
 (sa_NoRules:PySem.W.findIn K (.ref E_NoRules) "__setattr__" = some (some (.builtin "object.__setattr__"))) (be_NoRules:PySem.W.subIn K (.ref E_NoRules) (.type "BaseException") = some true) (ty_NoRules:PySem.W.typeIn K (.ref E_NoRules) = some (.type "type")) (kp_NoRules:PySem.W.keepIn K (.ref E_NoRules) = true) (at_xNoRules:PySem.W.findIn K (.ref E_NoRules) "__init__" = some (some (.ref f_einit))) (wn_NoRules:PySem.W.findIn K (.ref E_NoRules) "what" = some none) (hx_NoRules:PySem.W.hasDictIn K E_NoRules = true)
 (a_NoText:PySem.W.nsIn K mainGlobals "NoText" = some (some (.ref E_NoText))) (xl_NoText:K.lookup E_NoText = some (PySem.excClassObj nm_NoText qn_NoText E_NoText N_NoText bs_NoText bm_NoText true sn_NoText sub_NoText ab_NoText col_NoText dd_NoText m0_NoText m1_NoText m2_NoText m3_NoText m5_NoText "ValueError.__new__")) (rv_NoText:PySem.HandSPX.refsVE bm_NoText = true)
 (sa_NoText:PySem.W.findIn K (.ref E_NoText) "__setattr__" = some (some (.builtin "object.__setattr__"))) (be_NoText:PySem.W.subIn K (.ref E_NoText) (.type "BaseException") = some true) (ty_NoText:PySem.W.typeIn K (.ref E_NoText) = some (.type "type")) (kp_NoText:PySem.W.keepIn K (.ref E_NoText) = true) (at_xNoText:PySem.W.findIn K (.ref E_NoText) "__init__" = some (some (.ref f_einit))) (wn_NoText:PySem.W.findIn K (.ref E_NoText) "what" = some none) (hx_NoText:PySem.W.hasDictIn K E_NoText = true)
 (a_AskError:PySem.W.nsIn K mainGlobals "AskError" = some (some (.ref E_AskError))) (xl_AskError:K.lookup E_AskError = some (PySem.excClassObj nm_AskError qn_AskError E_AskError N_AskError bs_AskError bm_AskError true sn_AskError sub_AskError ab_AskError col_AskError dd_AskError m0_AskError m1_AskError m2_AskError m3_AskError m5_AskError "ValueError.__new__")) (rv_AskError:PySem.HandSPX.refsVE bm_AskError = true)
 (sa_AskError:PySem.W.findIn K (.ref E_AskError) "__setattr__" = some (some (.builtin "object.__setattr__"))) (be_AskError:PySem.W.subIn K (.ref E_AskError) (.type "BaseException") = some true) (ty_AskError:PySem.W.typeIn K (.ref E_AskError) = some (.type "type")) (kp_AskError:PySem.W.keepIn K (.ref E_AskError) = true) (at_xAskError:PySem.W.findIn K (.ref E_AskError) "__init__" = some (some (.ref f_einit))) (wn_AskError:PySem.W.findIn K (.ref E_AskError) "what" = some none) (hx_AskError:PySem.W.hasDictIn K E_AskError = true)
 (sub_NoRules_NoRules:PySem.W.subIn K (.ref E_NoRules) (.ref E_NoRules) = some true)
 (c_LETTERS:PySem.W.nsIn K mainGlobals "LETTERS" = some (some (.str "abcdefghijklmnopqrstuvwxyz" k_LETTERS)))
 (c_MOST_LETTERS:PySem.W.nsIn K mainGlobals "MOST_LETTERS" = some (some (.int 8 k_MOST_LETTERS)))
 (c_SAME:PySem.W.nsIn K mainGlobals "SAME" = some (some (.str "same" k_SAME)))
 (c_FIGURES:PySem.W.nsIn K mainGlobals "FIGURES" = some (some (.str "0123456789" k_FIGURES)))
 (c_MOST_FIGURES:PySem.W.nsIn K mainGlobals "MOST_FIGURES" = some (some (.int 60 k_MOST_FIGURES)))
 (c_MOST_TEXT:PySem.W.nsIn K mainGlobals "MOST_TEXT" = some (some (.int 12 k_MOST_TEXT)))
 (a_NO_RELATIONS:PySem.W.nsIn K mainGlobals "NO_RELATIONS" = some (some (.ref D_NO_RELATIONS))) (l_NO_RELATIONS:K.lookup D_NO_RELATIONS = some ⟨.type "tuple",none,.seq it_NO_RELATIONS np_NO_RELATIONS,sl_NO_RELATIONS⟩) (zt_NO_RELATIONS:L2.Vals ((["if", "not"]:List Str).map L2.V.str) it_NO_RELATIONS.toList)
 (a_ROOMS:PySem.W.nsIn K mainGlobals "ROOMS" = some (some (.ref D_ROOMS))) (l_ROOMS:K.lookup D_ROOMS = some ⟨.type "dict",none,.dict en_ROOMS ep_ROOMS,#[]⟩) (zs_ROOMS:(D_ROOMS == sysModules) = false) (zr_ROOMS:RowsLit w.params en_ROOMS.toList rs_ROOMS)
 (n_all:PySem.W.nsIn K mainGlobals "all" = some none)
 (n_any:PySem.W.nsIn K mainGlobals "any" = some none)
 (n_bool:PySem.W.nsIn K mainGlobals "bool" = some none)
 (n_dict:PySem.W.nsIn K mainGlobals "dict" = some none)
 (n_int:PySem.W.nsIn K mainGlobals "int" = some none)
 (n_isinstance:PySem.W.nsIn K mainGlobals "isinstance" = some none)
 (n_len:PySem.W.nsIn K mainGlobals "len" = some none)
 (n_list:PySem.W.nsIn K mainGlobals "list" = some none)
 (n_max:PySem.W.nsIn K mainGlobals "max" = some none)
 (n_range:PySem.W.nsIn K mainGlobals "range" = some none)
 (n_set:PySem.W.nsIn K mainGlobals "set" = some none)
 (n_sorted:PySem.W.nsIn K mainGlobals "sorted" = some none)
 (n_str:PySem.W.nsIn K mainGlobals "str" = some none)
 (n_tuple:PySem.W.nsIn K mainGlobals "tuple" = some none):Tx K mg w :=
 {t_q15:=⟨⟨f_q15,_,fun_mk (st:=topS 1) l_q15 c_q15 k_q15,(fun_mk (st:=topS 1) l_q15 c_q15 k_q15).binds (fun _ _ _ _ _ _ us hl => match us,hl with | [_],_ => rfl)⟩,PySem.W.mg_of X G a_q15⟩,t_q20:=⟨⟨f_q20,_,fun_mk (st:=topS 2) l_q20 c_q20 k_q20,(fun_mk (st:=topS 2) l_q20 c_q20 k_q20).binds (fun _ _ _ _ _ _ us hl => match us,hl with | [_,_],_ => rfl)⟩,PySem.W.mg_of X G a_q20⟩,t_q5:=⟨⟨f_q5,_,fun_mk (st:=topS 3) l_q5 c_q5 k_q5,(fun_mk (st:=topS 3) l_q5 c_q5 k_q5).binds (fun _ _ _ _ _ _ us hl => match us,hl with | [_],_ => rfl)⟩,PySem.W.mg_of X G a_q5⟩,t_q23:=⟨⟨f_q23,_,fun_mk (st:=topS 4) l_q23 c_q23 k_q23,(fun_mk (st:=topS 4) l_q23 c_q23 k_q23).binds (fun _ _ _ _ _ _ us hl => match us,hl with | [_],_ => rfl)⟩,PySem.W.mg_of X G a_q23⟩,t_q13:=⟨⟨f_q13,_,fun_mk (st:=topS 5) l_q13 c_q13 k_q13,(fun_mk (st:=topS 5) l_q13 c_q13 k_q13).binds (fun _ _ _ _ _ _ us hl => match us,hl with | [_],_ => rfl)⟩,PySem.W.mg_of X G a_q13⟩,t_q32:=⟨⟨f_q32,_,fun_mk (st:=topS 13) l_q32 c_q32 k_q32,(fun_mk (st:=topS 13) l_q32 c_q32 k_q32).binds (fun _ _ _ _ _ _ us hl => match us,hl with | [_],_ => rfl)⟩,PySem.W.mg_of X G a_q32⟩,t_q27:=⟨⟨f_q27,_,fun_mk (st:=topS 17) l_q27 c_q27 k_q27,(fun_mk (st:=topS 17) l_q27 c_q27 k_q27).binds (fun _ _ _ _ _ _ us hl => match us,hl with | [_],_ => rfl)⟩,PySem.W.mg_of X G a_q27⟩,t_q26:=⟨⟨f_q26,_,fun_mk (st:=topS 18) l_q26 c_q26 k_q26,(fun_mk (st:=topS 18) l_q26 c_q26 k_q26).binds (fun _ _ _ _ _ _ us hl => match us,hl with | [_],_ => rfl)⟩,PySem.W.mg_of X G a_q26⟩,t_q29:=⟨⟨f_q29,_,fun_mk (st:=topS 19) l_q29 c_q29 k_q29,(fun_mk (st:=topS 19) l_q29 c_q29 k_q29).binds (fun _ _ _ _ _ _ us hl => match us,hl with | [_],_ => rfl)⟩,PySem.W.mg_of X G a_q29⟩,t_q30:=⟨⟨f_q30,_,fun_mk (st:=topS 20) l_q30 c_q30 k_q30,(fun_mk (st:=topS 20) l_q30 c_q30 k_q30).binds (fun _ _ _ _ _ _ us hl => match us,hl with | [_],_ => rfl)⟩,PySem.W.mg_of X G a_q30⟩,t_q24:=⟨⟨f_q24,_,fun_mk (st:=topS 21) l_q24 c_q24 k_q24,(fun_mk (st:=topS 21) l_q24 c_q24 k_q24).binds (fun _ _ _ _ _ _ us hl => match us,hl with | [_],_ => rfl)⟩,PySem.W.mg_of X G a_q24⟩,t_q28:=⟨⟨f_q28,_,fun_mk (st:=topS 22) l_q28 c_q28 k_q28,(fun_mk (st:=topS 22) l_q28 c_q28 k_q28).binds (fun _ _ _ _ _ _ us hl => match us,hl with | [_],_ => rfl)⟩,PySem.W.mg_of X G a_q28⟩,t_q4:=⟨⟨f_q4,_,fun_mk (st:=topS 23) l_q4 c_q4 k_q4,(fun_mk (st:=topS 23) l_q4 c_q4 k_q4).binds (fun _ _ _ _ _ _ us hl => match us,hl with | [_,_],_ => rfl)⟩,PySem.W.mg_of X G a_q4⟩,t_q35:=⟨⟨f_q35,_,fun_mk (st:=topS 24) l_q35 c_q35 k_q35,(fun_mk (st:=topS 24) l_q35 c_q35 k_q35).binds (fun _ _ _ _ _ _ us hl => match us,hl with | [_],_ => rfl)⟩,PySem.W.mg_of X G a_q35⟩,t_q25:=⟨⟨f_q25,_,fun_mk (st:=topS 30) l_q25 c_q25 k_q25,(fun_mk (st:=topS 30) l_q25 c_q25 k_q25).binds (fun _ _ _ _ _ _ us hl => match us,hl with | [_],_ => rfl)⟩,PySem.W.mg_of X G a_q25⟩,t_q33:=⟨⟨f_q33,_,fun_mk (st:=topS 31) l_q33 c_q33 k_q33,(fun_mk (st:=topS 31) l_q33 c_q33 k_q33).binds (fun _ _ _ _ _ _ us hl => match us,hl with | [_],_ => rfl)⟩,PySem.W.mg_of X G a_q33⟩,t_q31:=⟨⟨f_q31,_,fun_mk (st:=topS 32) l_q31 c_q31 k_q31,(fun_mk (st:=topS 32) l_q31 c_q31 k_q31).binds (fun _ _ _ _ _ _ us hl => match us,hl with | [_],_ => rfl)⟩,PySem.W.mg_of X G a_q31⟩,t_q12:=⟨⟨f_q12,_,fun_mk (st:=topS 33) l_q12 c_q12 k_q12,(fun_mk (st:=topS 33) l_q12 c_q12 k_q12).binds (fun _ _ _ _ _ _ us hl => match us,hl with | [_],_ => rfl)⟩,PySem.W.mg_of X G a_q12⟩,t_q34:=⟨⟨f_q34,_,fun_mk (st:=topS 34) l_q34 c_q34 k_q34,(fun_mk (st:=topS 34) l_q34 c_q34 k_q34).binds (fun _ _ _ _ _ _ us hl => match us,hl with | [_],_ => rfl)⟩,PySem.W.mg_of X G a_q34⟩,t_q7:=⟨⟨f_q7,_,fun_mk (st:=topS 35) l_q7 c_q7 k_q7,(fun_mk (st:=topS 35) l_q7 c_q7 k_q7).binds (fun _ _ _ _ _ _ us hl => match us,hl with | [_],_ => rfl)⟩,PySem.W.mg_of X G a_q7⟩,t_q21:=⟨⟨f_q21,_,fun_mk (st:=topS 37) l_q21 c_q21 k_q21,(fun_mk (st:=topS 37) l_q21 c_q21 k_q21).binds (fun _ _ _ _ _ _ us hl => match us,hl with | [_],_ => rfl)⟩,PySem.W.mg_of X G a_q21⟩,t_q16:=⟨⟨f_q16,_,fun_mk (st:=topS 38) l_q16 c_q16 k_q16,(fun_mk (st:=topS 38) l_q16 c_q16 k_q16).binds (fun _ _ _ _ _ _ us hl => match us,hl with | [_,_],_ => rfl)⟩,PySem.W.mg_of X G a_q16⟩,t_q9:=⟨⟨f_q9,_,fun_mk (st:=topS 39) l_q9 c_q9 k_q9,(fun_mk (st:=topS 39) l_q9 c_q9 k_q9).binds (fun _ _ _ _ _ _ us hl => match us,hl with | [_],_ => rfl)⟩,PySem.W.mg_of X G a_q9⟩,t_q10:=⟨⟨f_q10,_,fun_mk (st:=topS 40) l_q10 c_q10 k_q10,(fun_mk (st:=topS 40) l_q10 c_q10 k_q10).binds (fun _ _ _ _ _ _ us hl => match us,hl with | [_,_],_ => rfl)⟩,PySem.W.mg_of X G a_q10⟩,t_q19:=⟨⟨f_q19,_,fun_mk (st:=topS 41) l_q19 c_q19 k_q19,(fun_mk (st:=topS 41) l_q19 c_q19 k_q19).binds (fun _ _ _ _ _ _ us hl => match us,hl with | [_,_],_ => rfl)⟩,PySem.W.mg_of X G a_q19⟩,t_q8:=⟨⟨f_q8,_,fun_mk (st:=topS 42) l_q8 c_q8 k_q8,(fun_mk (st:=topS 42) l_q8 c_q8 k_q8).binds (fun _ _ _ _ _ _ us hl => match us,hl with | [_,_,_],_ => rfl)⟩,PySem.W.mg_of X G a_q8⟩,t_q14:=⟨⟨f_q14,_,fun_mk (st:=topS 43) l_q14 c_q14 k_q14,(fun_mk (st:=topS 43) l_q14 c_q14 k_q14).binds (fun _ _ _ _ _ _ us hl => match us,hl with | [_],_ => rfl)⟩,PySem.W.mg_of X G a_q14⟩,t_q6:=⟨⟨f_q6,_,fun_mk (st:=topS 44) l_q6 c_q6 k_q6,(fun_mk (st:=topS 44) l_q6 c_q6 k_q6).binds (fun _ _ _ _ _ _ us hl => match us,hl with | [],_ => rfl)⟩,PySem.W.mg_of X G a_q6⟩,t_q17:=⟨⟨f_q17,_,fun_mk (st:=topS 45) l_q17 c_q17 k_q17,(fun_mk (st:=topS 45) l_q17 c_q17 k_q17).binds (fun _ _ _ _ _ _ us hl => match us,hl with | [_,_,_],_ => rfl)⟩,PySem.W.mg_of X G a_q17⟩,t_q2:=⟨⟨f_q2,_,fun_mk (st:=topS 46) l_q2 c_q2 k_q2,(fun_mk (st:=topS 46) l_q2 c_q2 k_q2).binds (fun _ _ _ _ _ _ us hl => match us,hl with | [_],_ => rfl)⟩,PySem.W.mg_of X G a_q2⟩,t_q18:=⟨⟨f_q18,_,fun_mk (st:=topS 47) l_q18 c_q18 k_q18,(fun_mk (st:=topS 47) l_q18 c_q18 k_q18).binds (fun _ _ _ _ _ _ us hl => match us,hl with | [_],_ => rfl)⟩,PySem.W.mg_of X G a_q18⟩,t_q22:=⟨⟨f_q22,_,fun_mk (st:=topS 48) l_q22 c_q22 k_q22,(fun_mk (st:=topS 48) l_q22 c_q22 k_q22).binds (fun _ _ _ _ _ _ us hl => match us,hl with | [_,_,_,_],_ => rfl)⟩,PySem.W.mg_of X G a_q22⟩,t_q11:=⟨⟨f_q11,_,fun_mk (st:=topS 49) l_q11 c_q11 k_q11,(fun_mk (st:=topS 49) l_q11 c_q11 k_q11).binds (fun _ _ _ _ _ _ us hl => match us,hl with | [_,_],_ => rfl)⟩,PySem.W.mg_of X G a_q11⟩,t_q3:=⟨⟨f_q3,_,fun_mk (st:=topS 50) l_q3 c_q3 k_q3,(fun_mk (st:=topS 50) l_q3 c_q3 k_q3).binds (fun _ _ _ _ _ _ us hl => match us,hl with | [_],_ => rfl)⟩,PySem.W.mg_of X G a_q3⟩,t_q1:=⟨⟨f_q1,_,fun_mk (st:=topS 51) l_q1 c_q1 k_q1,(fun_mk (st:=topS 51) l_q1 c_q1 k_q1).binds (fun _ _ _ _ _ _ us hl => match us,hl with | [_,_],_ => rfl)⟩,PySem.W.mg_of X G a_q1⟩,t_q0:=⟨⟨f_q0,_,fun_mk (st:=topS 52) l_q0 c_q0 k_q0,(fun_mk (st:=topS 52) l_q0 c_q0 k_q0).binds (fun _ _ _ _ _ _ us hl => match us,hl with | [_],_ => rfl)⟩,PySem.W.mg_of X G a_q0⟩,t_law:=⟨⟨f_law,_,fun_mk (st:=topS 53) l_law c_law k_law,(fun_mk (st:=topS 53) l_law c_law k_law).binds (fun _ _ _ _ _ _ us hl => match us,hl with | [_],_ => rfl)⟩,PySem.W.mg_of X G a_law⟩,f_einit:=f_einit,d_einit:=_,t_einit:=fun_mk (st:=inClass (topS 7) 0) l_einit c_einit k_einit,b_einit:=(fun_mk (st:=inClass (topS 7) 0) l_einit c_einit k_einit).binds (fun _ _ _ _ _ _ us hl => match us,hl with | [_,_],_ => rfl),i_init:=ti_einit,p_einit:=(⟨24,8,24,12⟩,⟨24,8,24,17⟩,⟨24,20,24,24⟩,⟨24,8,24,24⟩),sc_einit:=sc_einit,bo_einit:=bo_einit,E_NoRules:=E_NoRules,x_NoRules:=⟨PySem.W.mg_of X G a_NoRules,⟨⟨_,_,_,_,_,_,_,_,_,_,_,_,_,_,_,xl_NoRules,rv_NoRules⟩,sa_NoRules,be_NoRules,ty_NoRules,kp_NoRules⟩,at_xNoRules,wn_NoRules⟩,E_NoText:=E_NoText,x_NoText:=⟨PySem.W.mg_of X G a_NoText,⟨⟨_,_,_,_,_,_,_,_,_,_,_,_,_,_,_,xl_NoText,rv_NoText⟩,sa_NoText,be_NoText,ty_NoText,kp_NoText⟩,at_xNoText,wn_NoText⟩,E_AskError:=E_AskError,x_AskError:=⟨PySem.W.mg_of X G a_AskError,⟨⟨_,_,_,_,_,_,_,_,_,_,_,_,_,_,_,xl_AskError,rv_AskError⟩,sa_AskError,be_AskError,ty_AskError,kp_AskError⟩,at_xAskError,wn_AskError⟩,ex_NoRules_NoRules:=PySem.W.exm_ref be_NoRules hx_NoRules ty_NoRules sub_NoRules_NoRules,k_LETTERS:=k_LETTERS,c_LETTERS:=PySem.W.mg_of X G c_LETTERS,k_MOST_LETTERS:=k_MOST_LETTERS,c_MOST_LETTERS:=PySem.W.mg_of X G c_MOST_LETTERS,k_SAME:=k_SAME,c_SAME:=PySem.W.mg_of X G c_SAME,k_FIGURES:=k_FIGURES,c_FIGURES:=PySem.W.mg_of X G c_FIGURES,k_MOST_FIGURES:=k_MOST_FIGURES,c_MOST_FIGURES:=PySem.W.mg_of X G c_MOST_FIGURES,k_MOST_TEXT:=k_MOST_TEXT,c_MOST_TEXT:=PySem.W.mg_of X G c_MOST_TEXT,kt_NO_RELATIONS:=⟨_,_,_,_,PySem.W.mg_of X G a_NO_RELATIONS,l_NO_RELATIONS,zt_NO_RELATIONS,by decide⟩,rd_ROOMS:=rds_of (PySem.W.mg_of X G a_ROOMS) zs_ROOMS l_ROOMS zr_ROOMS (by decide +kernel) (by decide),n_all:=PySem.W.mg_none_of X G n_all,n_any:=PySem.W.mg_none_of X G n_any,n_bool:=PySem.W.mg_none_of X G n_bool,n_dict:=PySem.W.mg_none_of X G n_dict,n_int:=PySem.W.mg_none_of X G n_int,n_isinstance:=PySem.W.mg_none_of X G n_isinstance,n_len:=PySem.W.mg_none_of X G n_len,n_list:=PySem.W.mg_none_of X G n_list,n_max:=PySem.W.mg_none_of X G n_max,n_range:=PySem.W.mg_none_of X G n_range,n_set:=PySem.W.mg_none_of X G n_set,n_sorted:=PySem.W.mg_none_of X G n_sorted,n_str:=PySem.W.mg_none_of X G n_str,n_tuple:=PySem.W.mg_none_of X G n_tuple,kf_read_rules_0_text:=Fun.kbindsW (fun_mk (st:=topS 35) l_q7 c_q7 k_q7) (fun kV dc pm an cdv ct us ws hl => match us,ws,hl with | [],[_],_ => rfl) kbrel_read_rules_0_text,kf_show_rules_0_rules:=Fun.kbindsW (fun_mk (st:=topS 5) l_q13 c_q13 k_q13) (fun kV dc pm an cdv ct us ws hl => match us,ws,hl with | [],[_],_ => rfl) kbrel_show_rules_0_rules }
theorem law_facts (hmain:LawMain 63 m_law) {K:PySem.W.Frag} {h:Heap} {mg:Str→Option Value} {l:PySem.W.OpenLaw} {w:World} {fa:Addr} (X:K.In h) (G:h.Ns mainGlobals mg) (hfa:mg "law" = some (.ref fa)) {f_q15:Addr} {oc_q15 kV_q15 dc_q15 pm_q15 cd_q15 ct_q15:Value} {od_q15 an_q15:Option Addr} {sl_q15:Array (Option Value)} {f_q20:Addr} {oc_q20 kV_q20 dc_q20 pm_q20 cd_q20 ct_q20:Value} {od_q20 an_q20:Option Addr} {sl_q20:Array (Option Value)} {f_q5:Addr} {oc_q5 kV_q5 dc_q5 pm_q5 cd_q5 ct_q5:Value} {od_q5 an_q5:Option Addr} {sl_q5:Array (Option Value)} {f_q23:Addr} {oc_q23 kV_q23 dc_q23 pm_q23 cd_q23 ct_q23:Value} {od_q23 an_q23:Option Addr} {sl_q23:Array (Option Value)} {f_q13:Addr} {oc_q13 kV_q13 dc_q13 pm_q13 cd_q13 ct_q13:Value} {od_q13 an_q13:Option Addr} {sl_q13:Array (Option Value)} {f_q32:Addr} {oc_q32 kV_q32 dc_q32 pm_q32 cd_q32 ct_q32:Value} {od_q32 an_q32:Option Addr} {sl_q32:Array (Option Value)} {f_q27:Addr} {oc_q27 kV_q27 dc_q27 pm_q27 cd_q27 ct_q27:Value} {od_q27 an_q27:Option Addr} {sl_q27:Array (Option Value)} {f_q26:Addr} {oc_q26 kV_q26 dc_q26 pm_q26 cd_q26 ct_q26:Value} {od_q26 an_q26:Option Addr} {sl_q26:Array (Option Value)} {f_q29:Addr} {oc_q29 kV_q29 dc_q29 pm_q29 cd_q29 ct_q29:Value} {od_q29 an_q29:Option Addr} {sl_q29:Array (Option Value)} {f_q30:Addr} {oc_q30 kV_q30 dc_q30 pm_q30 cd_q30 ct_q30:Value} {od_q30 an_q30:Option Addr} {sl_q30:Array (Option Value)} {f_q24:Addr} {oc_q24 kV_q24 dc_q24 pm_q24 cd_q24 ct_q24:Value} {od_q24 an_q24:Option Addr} {sl_q24:Array (Option Value)} {f_q28:Addr} {oc_q28 kV_q28 dc_q28 pm_q28 cd_q28 ct_q28:Value} {od_q28 an_q28:Option Addr} {sl_q28:Array (Option Value)} {f_q4:Addr} {oc_q4 kV_q4 dc_q4 pm_q4 cd_q4 ct_q4:Value} {od_q4 an_q4:Option Addr} {sl_q4:Array (Option Value)} {f_q35:Addr} {oc_q35 kV_q35 dc_q35 pm_q35 cd_q35 ct_q35:Value} {od_q35 an_q35:Option Addr} {sl_q35:Array (Option Value)} {f_q25:Addr} {oc_q25 kV_q25 dc_q25 pm_q25 cd_q25 ct_q25:Value} {od_q25 an_q25:Option Addr} {sl_q25:Array (Option Value)} {f_q33:Addr} {oc_q33 kV_q33 dc_q33 pm_q33 cd_q33 ct_q33:Value} {od_q33 an_q33:Option Addr} {sl_q33:Array (Option Value)} {f_q31:Addr} {oc_q31 kV_q31 dc_q31 pm_q31 cd_q31 ct_q31:Value} {od_q31 an_q31:Option Addr} {sl_q31:Array (Option Value)} {f_q12:Addr} {oc_q12 kV_q12 dc_q12 pm_q12 cd_q12 ct_q12:Value} {od_q12 an_q12:Option Addr} {sl_q12:Array (Option Value)} {f_q34:Addr} {oc_q34 kV_q34 dc_q34 pm_q34 cd_q34 ct_q34:Value} {od_q34 an_q34:Option Addr} {sl_q34:Array (Option Value)} {f_q7:Addr} {oc_q7 kV_q7 dc_q7 pm_q7 cd_q7 ct_q7:Value} {od_q7 an_q7:Option Addr} {sl_q7:Array (Option Value)} {f_q21:Addr} {oc_q21 kV_q21 dc_q21 pm_q21 cd_q21 ct_q21:Value} {od_q21 an_q21:Option Addr} {sl_q21:Array (Option Value)} {f_q16:Addr} {oc_q16 kV_q16 dc_q16 pm_q16 cd_q16 ct_q16:Value} {od_q16 an_q16:Option Addr} {sl_q16:Array (Option Value)} {f_q9:Addr} {oc_q9 kV_q9 dc_q9 pm_q9 cd_q9 ct_q9:Value} {od_q9 an_q9:Option Addr} {sl_q9:Array (Option Value)} {f_q10:Addr} {oc_q10 kV_q10 dc_q10 pm_q10 cd_q10 ct_q10:Value} {od_q10 an_q10:Option Addr} {sl_q10:Array (Option Value)} {f_q19:Addr} {oc_q19 kV_q19 dc_q19 pm_q19 cd_q19 ct_q19:Value} {od_q19 an_q19:Option Addr} {sl_q19:Array (Option Value)} {f_q8:Addr} {oc_q8 kV_q8 dc_q8 pm_q8 cd_q8 ct_q8:Value} {od_q8 an_q8:Option Addr} {sl_q8:Array (Option Value)} {f_q14:Addr} {oc_q14 kV_q14 dc_q14 pm_q14 cd_q14 ct_q14:Value} {od_q14 an_q14:Option Addr} {sl_q14:Array (Option Value)} {f_q6:Addr} {oc_q6 kV_q6 dc_q6 pm_q6 cd_q6 ct_q6:Value} {od_q6 an_q6:Option Addr} {sl_q6:Array (Option Value)} {f_q17:Addr} {oc_q17 kV_q17 dc_q17 pm_q17 cd_q17 ct_q17:Value} {od_q17 an_q17:Option Addr} {sl_q17:Array (Option Value)} {f_q2:Addr} {oc_q2 kV_q2 dc_q2 pm_q2 cd_q2 ct_q2:Value} {od_q2 an_q2:Option Addr} {sl_q2:Array (Option Value)} {f_q18:Addr} {oc_q18 kV_q18 dc_q18 pm_q18 cd_q18 ct_q18:Value} {od_q18 an_q18:Option Addr} {sl_q18:Array (Option Value)} {f_q22:Addr} {oc_q22 kV_q22 dc_q22 pm_q22 cd_q22 ct_q22:Value} {od_q22 an_q22:Option Addr} {sl_q22:Array (Option Value)} {f_q11:Addr} {oc_q11 kV_q11 dc_q11 pm_q11 cd_q11 ct_q11:Value} {od_q11 an_q11:Option Addr} {sl_q11:Array (Option Value)} {f_q3:Addr} {oc_q3 kV_q3 dc_q3 pm_q3 cd_q3 ct_q3:Value} {od_q3 an_q3:Option Addr} {sl_q3:Array (Option Value)} {f_q1:Addr} {oc_q1 kV_q1 dc_q1 pm_q1 cd_q1 ct_q1:Value} {od_q1 an_q1:Option Addr} {sl_q1:Array (Option Value)} {f_q0:Addr} {oc_q0 kV_q0 dc_q0 pm_q0 cd_q0 ct_q0:Value} {od_q0 an_q0:Option Addr} {sl_q0:Array (Option Value)} {f_law:Addr} {oc_law kV_law dc_law pm_law cd_law ct_law:Value} {od_law an_law:Option Addr} {sl_law:Array (Option Value)} {f_einit:Addr} {oc_einit kV_einit dc_einit pm_einit cd_einit ct_einit:Value} {od_einit an_einit:Option Addr} {sl_einit:Array (Option Value)} {E_NoRules N_NoRules:Addr} {nm_NoRules qn_NoRules:Str} {bs_NoRules bm_NoRules sub_NoRules:List Value} {sn_NoRules:List Str} {ab_NoRules:Bool} {col_NoRules:Option Bool} {dd_NoRules:Option Addr} {m0_NoRules m1_NoRules m2_NoRules m3_NoRules m5_NoRules:Option Value} {E_NoText N_NoText:Addr} {nm_NoText qn_NoText:Str} {bs_NoText bm_NoText sub_NoText:List Value} {sn_NoText:List Str} {ab_NoText:Bool} {col_NoText:Option Bool} {dd_NoText:Option Addr} {m0_NoText m1_NoText m2_NoText m3_NoText m5_NoText:Option Value} {E_AskError N_AskError:Addr} {nm_AskError qn_AskError:Str} {bs_AskError bm_AskError sub_AskError:List Value} {sn_AskError:List Str} {ab_AskError:Bool} {col_AskError:Option Bool} {dd_AskError:Option Addr} {m0_AskError m1_AskError m2_AskError m3_AskError m5_AskError:Option Value} {k_LETTERS:Tok} {k_MOST_LETTERS:Tok} {k_SAME:Tok} {k_FIGURES:Tok} {k_MOST_FIGURES:Tok} {k_MOST_TEXT:Tok} {D_NO_RELATIONS:Addr} {it_NO_RELATIONS:Array Value} {np_NO_RELATIONS:Nat} {sl_NO_RELATIONS:Array (Option Value)} {D_ROOMS:Addr} {en_ROOMS:Array DictEntry} {ep_ROOMS:Nat}
 (l_q15:K.lookup f_q15 = some ⟨oc_q15,od_q15,.func (PySem.W.fnOf "show_term" "show_term" (defArgs (topS 1)) (defBody (topS 1)) (defScope (topS 1)) .none kV_q15 dc_q15 pm_q15 an_q15 cd_q15 ct_q15),sl_q15⟩) (c_q15:PySem.W.codeIn K cd_q15 "show_term" = true) (k_q15:PySem.W.keepIn K (.ref f_q15) = true)
 (a_q15:PySem.W.nsIn K mainGlobals "show_term" = some (some (.ref f_q15)))
 (l_q20:K.lookup f_q20 = some ⟨oc_q20,od_q20,.func (PySem.W.fnOf "show_atom" "show_atom" (defArgs (topS 2)) (defBody (topS 2)) (defScope (topS 2)) .none kV_q20 dc_q20 pm_q20 an_q20 cd_q20 ct_q20),sl_q20⟩) (c_q20:PySem.W.codeIn K cd_q20 "show_atom" = true) (k_q20:PySem.W.keepIn K (.ref f_q20) = true)
 (a_q20:PySem.W.nsIn K mainGlobals "show_atom" = some (some (.ref f_q20)))
 (l_q5:K.lookup f_q5 = some ⟨oc_q5,od_q5,.func (PySem.W.fnOf "show_literal" "show_literal" (defArgs (topS 3)) (defBody (topS 3)) (defScope (topS 3)) .none kV_q5 dc_q5 pm_q5 an_q5 cd_q5 ct_q5),sl_q5⟩) (c_q5:PySem.W.codeIn K cd_q5 "show_literal" = true) (k_q5:PySem.W.keepIn K (.ref f_q5) = true)
 (a_q5:PySem.W.nsIn K mainGlobals "show_literal" = some (some (.ref f_q5)))
 (l_q23:K.lookup f_q23 = some ⟨oc_q23,od_q23,.func (PySem.W.fnOf "show_rule" "show_rule" (defArgs (topS 4)) (defBody (topS 4)) (defScope (topS 4)) .none kV_q23 dc_q23 pm_q23 an_q23 cd_q23 ct_q23),sl_q23⟩) (c_q23:PySem.W.codeIn K cd_q23 "show_rule" = true) (k_q23:PySem.W.keepIn K (.ref f_q23) = true)
 (a_q23:PySem.W.nsIn K mainGlobals "show_rule" = some (some (.ref f_q23)))
 (l_q13:K.lookup f_q13 = some ⟨oc_q13,od_q13,.func (PySem.W.fnOf "show_rules" "show_rules" (defArgs (topS 5)) (defBody (topS 5)) (defScope (topS 5)) .none kV_q13 dc_q13 pm_q13 an_q13 cd_q13 ct_q13),sl_q13⟩) (c_q13:PySem.W.codeIn K cd_q13 "show_rules" = true) (k_q13:PySem.W.keepIn K (.ref f_q13) = true)
 (a_q13:PySem.W.nsIn K mainGlobals "show_rules" = some (some (.ref f_q13)))
 (l_q32:K.lookup f_q32 = some ⟨oc_q32,od_q32,.func (PySem.W.fnOf "is_name" "is_name" (defArgs (topS 13)) (defBody (topS 13)) (defScope (topS 13)) .none kV_q32 dc_q32 pm_q32 an_q32 cd_q32 ct_q32),sl_q32⟩) (c_q32:PySem.W.codeIn K cd_q32 "is_name" = true) (k_q32:PySem.W.keepIn K (.ref f_q32) = true)
 (a_q32:PySem.W.nsIn K mainGlobals "is_name" = some (some (.ref f_q32)))
 (l_q27:K.lookup f_q27 = some ⟨oc_q27,od_q27,.func (PySem.W.fnOf "heads_of" "heads_of" (defArgs (topS 17)) (defBody (topS 17)) (defScope (topS 17)) .none kV_q27 dc_q27 pm_q27 an_q27 cd_q27 ct_q27),sl_q27⟩) (c_q27:PySem.W.codeIn K cd_q27 "heads_of" = true) (k_q27:PySem.W.keepIn K (.ref f_q27) = true)
 (a_q27:PySem.W.nsIn K mainGlobals "heads_of" = some (some (.ref f_q27)))
 (l_q26:K.lookup f_q26 = some ⟨oc_q26,od_q26,.func (PySem.W.fnOf "names_of" "names_of" (defArgs (topS 18)) (defBody (topS 18)) (defScope (topS 18)) .none kV_q26 dc_q26 pm_q26 an_q26 cd_q26 ct_q26),sl_q26⟩) (c_q26:PySem.W.codeIn K cd_q26 "names_of" = true) (k_q26:PySem.W.keepIn K (.ref f_q26) = true)
 (a_q26:PySem.W.nsIn K mainGlobals "names_of" = some (some (.ref f_q26)))
 (l_q29:K.lookup f_q29 = some ⟨oc_q29,od_q29,.func (PySem.W.fnOf "is_asked" "is_asked" (defArgs (topS 19)) (defBody (topS 19)) (defScope (topS 19)) .none kV_q29 dc_q29 pm_q29 an_q29 cd_q29 ct_q29),sl_q29⟩) (c_q29:PySem.W.codeIn K cd_q29 "is_asked" = true) (k_q29:PySem.W.keepIn K (.ref f_q29) = true)
 (a_q29:PySem.W.nsIn K mainGlobals "is_asked" = some (some (.ref f_q29)))
 (l_q30:K.lookup f_q30 = some ⟨oc_q30,od_q30,.func (PySem.W.fnOf "is_many" "is_many" (defArgs (topS 20)) (defBody (topS 20)) (defScope (topS 20)) .none kV_q30 dc_q30 pm_q30 an_q30 cd_q30 ct_q30),sl_q30⟩) (c_q30:PySem.W.codeIn K cd_q30 "is_many" = true) (k_q30:PySem.W.keepIn K (.ref f_q30) = true)
 (a_q30:PySem.W.nsIn K mainGlobals "is_many" = some (some (.ref f_q30)))
 (l_q24:K.lookup f_q24 = some ⟨oc_q24,od_q24,.func (PySem.W.fnOf "is_loose" "is_loose" (defArgs (topS 21)) (defBody (topS 21)) (defScope (topS 21)) .none kV_q24 dc_q24 pm_q24 an_q24 cd_q24 ct_q24),sl_q24⟩) (c_q24:PySem.W.codeIn K cd_q24 "is_loose" = true) (k_q24:PySem.W.keepIn K (.ref f_q24) = true)
 (a_q24:PySem.W.nsIn K mainGlobals "is_loose" = some (some (.ref f_q24)))
 (l_q28:K.lookup f_q28 = some ⟨oc_q28,od_q28,.func (PySem.W.fnOf "links_of" "links_of" (defArgs (topS 22)) (defBody (topS 22)) (defScope (topS 22)) .none kV_q28 dc_q28 pm_q28 an_q28 cd_q28 ct_q28),sl_q28⟩) (c_q28:PySem.W.codeIn K cd_q28 "links_of" = true) (k_q28:PySem.W.keepIn K (.ref f_q28) = true)
 (a_q28:PySem.W.nsIn K mainGlobals "links_of" = some (some (.ref f_q28)))
 (l_q4:K.lookup f_q4 = some ⟨oc_q4,od_q4,.func (PySem.W.fnOf "reached_from" "reached_from" (defArgs (topS 23)) (defBody (topS 23)) (defScope (topS 23)) .none kV_q4 dc_q4 pm_q4 an_q4 cd_q4 ct_q4),sl_q4⟩) (c_q4:PySem.W.codeIn K cd_q4 "reached_from" = true) (k_q4:PySem.W.keepIn K (.ref f_q4) = true)
 (a_q4:PySem.W.nsIn K mainGlobals "reached_from" = some (some (.ref f_q4)))
 (l_q35:K.lookup f_q35 = some ⟨oc_q35,od_q35,.func (PySem.W.fnOf "look" "look" (defArgs (topS 24)) (defBody (topS 24)) (defScope (topS 24)) .none kV_q35 dc_q35 pm_q35 an_q35 cd_q35 ct_q35),sl_q35⟩) (c_q35:PySem.W.codeIn K cd_q35 "look" = true) (k_q35:PySem.W.keepIn K (.ref f_q35) = true)
 (a_q35:PySem.W.nsIn K mainGlobals "look" = some (some (.ref f_q35)))
 (l_q25:K.lookup f_q25 = some ⟨oc_q25,od_q25,.func (PySem.W.fnOf "whole_in" "whole_in" (defArgs (topS 30)) (defBody (topS 30)) (defScope (topS 30)) .none kV_q25 dc_q25 pm_q25 an_q25 cd_q25 ct_q25),sl_q25⟩) (c_q25:PySem.W.codeIn K cd_q25 "whole_in" = true) (k_q25:PySem.W.keepIn K (.ref f_q25) = true)
 (a_q25:PySem.W.nsIn K mainGlobals "whole_in" = some (some (.ref f_q25)))
 (l_q33:K.lookup f_q33 = some ⟨oc_q33,od_q33,.func (PySem.W.fnOf "term_in" "term_in" (defArgs (topS 31)) (defBody (topS 31)) (defScope (topS 31)) .none kV_q33 dc_q33 pm_q33 an_q33 cd_q33 ct_q33),sl_q33⟩) (c_q33:PySem.W.codeIn K cd_q33 "term_in" = true) (k_q33:PySem.W.keepIn K (.ref f_q33) = true)
 (a_q33:PySem.W.nsIn K mainGlobals "term_in" = some (some (.ref f_q33)))
 (l_q31:K.lookup f_q31 = some ⟨oc_q31,od_q31,.func (PySem.W.fnOf "atom_in" "atom_in" (defArgs (topS 32)) (defBody (topS 32)) (defScope (topS 32)) .none kV_q31 dc_q31 pm_q31 an_q31 cd_q31 ct_q31),sl_q31⟩) (c_q31:PySem.W.codeIn K cd_q31 "atom_in" = true) (k_q31:PySem.W.keepIn K (.ref f_q31) = true)
 (a_q31:PySem.W.nsIn K mainGlobals "atom_in" = some (some (.ref f_q31)))
 (l_q12:K.lookup f_q12 = some ⟨oc_q12,od_q12,.func (PySem.W.fnOf "literal_in" "literal_in" (defArgs (topS 33)) (defBody (topS 33)) (defScope (topS 33)) .none kV_q12 dc_q12 pm_q12 an_q12 cd_q12 ct_q12),sl_q12⟩) (c_q12:PySem.W.codeIn K cd_q12 "literal_in" = true) (k_q12:PySem.W.keepIn K (.ref f_q12) = true)
 (a_q12:PySem.W.nsIn K mainGlobals "literal_in" = some (some (.ref f_q12)))
 (l_q34:K.lookup f_q34 = some ⟨oc_q34,od_q34,.func (PySem.W.fnOf "rule_in" "rule_in" (defArgs (topS 34)) (defBody (topS 34)) (defScope (topS 34)) .none kV_q34 dc_q34 pm_q34 an_q34 cd_q34 ct_q34),sl_q34⟩) (c_q34:PySem.W.codeIn K cd_q34 "rule_in" = true) (k_q34:PySem.W.keepIn K (.ref f_q34) = true)
 (a_q34:PySem.W.nsIn K mainGlobals "rule_in" = some (some (.ref f_q34)))
 (l_q7:K.lookup f_q7 = some ⟨oc_q7,od_q7,.func (PySem.W.fnOf "read_rules" "read_rules" (defArgs (topS 35)) (defBody (topS 35)) (defScope (topS 35)) .none kV_q7 dc_q7 pm_q7 an_q7 cd_q7 ct_q7),sl_q7⟩) (c_q7:PySem.W.codeIn K cd_q7 "read_rules" = true) (k_q7:PySem.W.keepIn K (.ref f_q7) = true)
 (a_q7:PySem.W.nsIn K mainGlobals "read_rules" = some (some (.ref f_q7)))
 (l_q21:K.lookup f_q21 = some ⟨oc_q21,od_q21,.func (PySem.W.fnOf "_law_tray" "_law_tray" (defArgs (topS 37)) (defBody (topS 37)) (defScope (topS 37)) .none kV_q21 dc_q21 pm_q21 an_q21 cd_q21 ct_q21),sl_q21⟩) (c_q21:PySem.W.codeIn K cd_q21 "_law_tray" = true) (k_q21:PySem.W.keepIn K (.ref f_q21) = true)
 (a_q21:PySem.W.nsIn K mainGlobals "_law_tray" = some (some (.ref f_q21)))
 (l_q16:K.lookup f_q16 = some ⟨oc_q16,od_q16,.func (PySem.W.fnOf "_law_draw" "_law_draw" (defArgs (topS 38)) (defBody (topS 38)) (defScope (topS 38)) .none kV_q16 dc_q16 pm_q16 an_q16 cd_q16 ct_q16),sl_q16⟩) (c_q16:PySem.W.codeIn K cd_q16 "_law_draw" = true) (k_q16:PySem.W.keepIn K (.ref f_q16) = true)
 (a_q16:PySem.W.nsIn K mainGlobals "_law_draw" = some (some (.ref f_q16)))
 (l_q9:K.lookup f_q9 = some ⟨oc_q9,od_q9,.func (PySem.W.fnOf "_law_great" "_law_great" (defArgs (topS 39)) (defBody (topS 39)) (defScope (topS 39)) .none kV_q9 dc_q9 pm_q9 an_q9 cd_q9 ct_q9),sl_q9⟩) (c_q9:PySem.W.codeIn K cd_q9 "_law_great" = true) (k_q9:PySem.W.keepIn K (.ref f_q9) = true)
 (a_q9:PySem.W.nsIn K mainGlobals "_law_great" = some (some (.ref f_q9)))
 (l_q10:K.lookup f_q10 = some ⟨oc_q10,od_q10,.func (PySem.W.fnOf "_law_alike" "_law_alike" (defArgs (topS 40)) (defBody (topS 40)) (defScope (topS 40)) .none kV_q10 dc_q10 pm_q10 an_q10 cd_q10 ct_q10),sl_q10⟩) (c_q10:PySem.W.codeIn K cd_q10 "_law_alike" = true) (k_q10:PySem.W.keepIn K (.ref f_q10) = true)
 (a_q10:PySem.W.nsIn K mainGlobals "_law_alike" = some (some (.ref f_q10)))
 (l_q19:K.lookup f_q19 = some ⟨oc_q19,od_q19,.func (PySem.W.fnOf "_law_name" "_law_name" (defArgs (topS 41)) (defBody (topS 41)) (defScope (topS 41)) .none kV_q19 dc_q19 pm_q19 an_q19 cd_q19 ct_q19),sl_q19⟩) (c_q19:PySem.W.codeIn K cd_q19 "_law_name" = true) (k_q19:PySem.W.keepIn K (.ref f_q19) = true)
 (a_q19:PySem.W.nsIn K mainGlobals "_law_name" = some (some (.ref f_q19)))
 (l_q8:K.lookup f_q8 = some ⟨oc_q8,od_q8,.func (PySem.W.fnOf "_law_names" "_law_names" (defArgs (topS 42)) (defBody (topS 42)) (defScope (topS 42)) .none kV_q8 dc_q8 pm_q8 an_q8 cd_q8 ct_q8),sl_q8⟩) (c_q8:PySem.W.codeIn K cd_q8 "_law_names" = true) (k_q8:PySem.W.keepIn K (.ref f_q8) = true)
 (a_q8:PySem.W.nsIn K mainGlobals "_law_names" = some (some (.ref f_q8)))
 (l_q14:K.lookup f_q14 = some ⟨oc_q14,od_q14,.func (PySem.W.fnOf "_law_whole" "_law_whole" (defArgs (topS 43)) (defBody (topS 43)) (defScope (topS 43)) .none kV_q14 dc_q14 pm_q14 an_q14 cd_q14 ct_q14),sl_q14⟩) (c_q14:PySem.W.codeIn K cd_q14 "_law_whole" = true) (k_q14:PySem.W.keepIn K (.ref f_q14) = true)
 (a_q14:PySem.W.nsIn K mainGlobals "_law_whole" = some (some (.ref f_q14)))
 (l_q6:K.lookup f_q6 = some ⟨oc_q6,od_q6,.func (PySem.W.fnOf "_law_tables" "_law_tables" (defArgs (topS 44)) (defBody (topS 44)) (defScope (topS 44)) .none kV_q6 dc_q6 pm_q6 an_q6 cd_q6 ct_q6),sl_q6⟩) (c_q6:PySem.W.codeIn K cd_q6 "_law_tables" = true) (k_q6:PySem.W.keepIn K (.ref f_q6) = true)
 (a_q6:PySem.W.nsIn K mainGlobals "_law_tables" = some (some (.ref f_q6)))
 (l_q17:K.lookup f_q17 = some ⟨oc_q17,od_q17,.func (PySem.W.fnOf "_law_term" "_law_term" (defArgs (topS 45)) (defBody (topS 45)) (defScope (topS 45)) .none kV_q17 dc_q17 pm_q17 an_q17 cd_q17 ct_q17),sl_q17⟩) (c_q17:PySem.W.codeIn K cd_q17 "_law_term" = true) (k_q17:PySem.W.keepIn K (.ref f_q17) = true)
 (a_q17:PySem.W.nsIn K mainGlobals "_law_term" = some (some (.ref f_q17)))
 (l_q2:K.lookup f_q2 = some ⟨oc_q2,od_q2,.func (PySem.W.fnOf "_law_free_names" "_law_free_names" (defArgs (topS 46)) (defBody (topS 46)) (defScope (topS 46)) .none kV_q2 dc_q2 pm_q2 an_q2 cd_q2 ct_q2),sl_q2⟩) (c_q2:PySem.W.codeIn K cd_q2 "_law_free_names" = true) (k_q2:PySem.W.keepIn K (.ref f_q2) = true)
 (a_q2:PySem.W.nsIn K mainGlobals "_law_free_names" = some (some (.ref f_q2)))
 (l_q18:K.lookup f_q18 = some ⟨oc_q18,od_q18,.func (PySem.W.fnOf "_law_long" "_law_long" (defArgs (topS 47)) (defBody (topS 47)) (defScope (topS 47)) .none kV_q18 dc_q18 pm_q18 an_q18 cd_q18 ct_q18),sl_q18⟩) (c_q18:PySem.W.codeIn K cd_q18 "_law_long" = true) (k_q18:PySem.W.keepIn K (.ref f_q18) = true)
 (a_q18:PySem.W.nsIn K mainGlobals "_law_long" = some (some (.ref f_q18)))
 (l_q22:K.lookup f_q22 = some ⟨oc_q22,od_q22,.func (PySem.W.fnOf "_law_rule" "_law_rule" (defArgs (topS 48)) (defBody (topS 48)) (defScope (topS 48)) .none kV_q22 dc_q22 pm_q22 an_q22 cd_q22 ct_q22),sl_q22⟩) (c_q22:PySem.W.codeIn K cd_q22 "_law_rule" = true) (k_q22:PySem.W.keepIn K (.ref f_q22) = true)
 (a_q22:PySem.W.nsIn K mainGlobals "_law_rule" = some (some (.ref f_q22)))
 (l_q11:K.lookup f_q11 = some ⟨oc_q11,od_q11,.func (PySem.W.fnOf "_law_rules" "_law_rules" (defArgs (topS 49)) (defBody (topS 49)) (defScope (topS 49)) .none kV_q11 dc_q11 pm_q11 an_q11 cd_q11 ct_q11),sl_q11⟩) (c_q11:PySem.W.codeIn K cd_q11 "_law_rules" = true) (k_q11:PySem.W.keepIn K (.ref f_q11) = true)
 (a_q11:PySem.W.nsIn K mainGlobals "_law_rules" = some (some (.ref f_q11)))
 (l_q3:K.lookup f_q3 = some ⟨oc_q3,od_q3,.func (PySem.W.fnOf "_law_term_shown" "_law_term_shown" (defArgs (topS 50)) (defBody (topS 50)) (defScope (topS 50)) .none kV_q3 dc_q3 pm_q3 an_q3 cd_q3 ct_q3),sl_q3⟩) (c_q3:PySem.W.codeIn K cd_q3 "_law_term_shown" = true) (k_q3:PySem.W.keepIn K (.ref f_q3) = true)
 (a_q3:PySem.W.nsIn K mainGlobals "_law_term_shown" = some (some (.ref f_q3)))
 (l_q1:K.lookup f_q1 = some ⟨oc_q1,od_q1,.func (PySem.W.fnOf "_law_atom_shown" "_law_atom_shown" (defArgs (topS 51)) (defBody (topS 51)) (defScope (topS 51)) .none kV_q1 dc_q1 pm_q1 an_q1 cd_q1 ct_q1),sl_q1⟩) (c_q1:PySem.W.codeIn K cd_q1 "_law_atom_shown" = true) (k_q1:PySem.W.keepIn K (.ref f_q1) = true)
 (a_q1:PySem.W.nsIn K mainGlobals "_law_atom_shown" = some (some (.ref f_q1)))
 (l_q0:K.lookup f_q0 = some ⟨oc_q0,od_q0,.func (PySem.W.fnOf "_law_rules_shown" "_law_rules_shown" (defArgs (topS 52)) (defBody (topS 52)) (defScope (topS 52)) .none kV_q0 dc_q0 pm_q0 an_q0 cd_q0 ct_q0),sl_q0⟩) (c_q0:PySem.W.codeIn K cd_q0 "_law_rules_shown" = true) (k_q0:PySem.W.keepIn K (.ref f_q0) = true)
 (a_q0:PySem.W.nsIn K mainGlobals "_law_rules_shown" = some (some (.ref f_q0)))
 (l_law:K.lookup f_law = some ⟨oc_law,od_law,.func (PySem.W.fnOf "law" "law" (defArgs (topS 53)) (defBody (topS 53)) (defScope (topS 53)) .none kV_law dc_law pm_law an_law cd_law ct_law),sl_law⟩) (c_law:PySem.W.codeIn K cd_law "law" = true) (k_law:PySem.W.keepIn K (.ref f_law) = true)
 (a_law:PySem.W.nsIn K mainGlobals "law" = some (some (.ref f_law)))
 (l_einit:K.lookup f_einit = some ⟨oc_einit,od_einit,.func (PySem.W.fnOf "__init__" "AskError.__init__" (defArgs (inClass (topS 7) 0)) (defBody (inClass (topS 7) 0)) (defScope (inClass (topS 7) 0)) .none kV_einit dc_einit pm_einit an_einit cd_einit ct_einit),sl_einit⟩) (c_einit:PySem.W.codeIn K cd_einit "AskError.__init__" = true) (k_einit:PySem.W.keepIn K (.ref f_einit) = true) (ti_einit:PySem.W.typeIn K (.ref f_einit) = some (.type "function"))
 (cg:PySem.W.specialIn K (.builtin "object.__class__") "__get__" = some (some (.builtin "getset_descriptor.__get__"))) (cta:PySem.W.takesIn K (.builtin "object.__class__") = some true)
 (a_NoRules:PySem.W.nsIn K mainGlobals "NoRules" = some (some (.ref E_NoRules))) (xl_NoRules:K.lookup E_NoRules = some (PySem.excClassObj nm_NoRules qn_NoRules E_NoRules N_NoRules bs_NoRules bm_NoRules true sn_NoRules sub_NoRules ab_NoRules col_NoRules dd_NoRules m0_NoRules m1_NoRules m2_NoRules m3_NoRules m5_NoRules "ValueError.__new__")) (rv_NoRules:PySem.HandSPX.refsVE bm_NoRules = true)
 (sa_NoRules:PySem.W.findIn K (.ref E_NoRules) "__setattr__" = some (some (.builtin "object.__setattr__"))) (be_NoRules:PySem.W.subIn K (.ref E_NoRules) (.type "BaseException") = some true) (ty_NoRules:PySem.W.typeIn K (.ref E_NoRules) = some (.type "type")) (kp_NoRules:PySem.W.keepIn K (.ref E_NoRules) = true) (at_xNoRules:PySem.W.findIn K (.ref E_NoRules) "__init__" = some (some (.ref f_einit))) (wn_NoRules:PySem.W.findIn K (.ref E_NoRules) "what" = some none) (hx_NoRules:PySem.W.hasDictIn K E_NoRules = true)
 (a_NoText:PySem.W.nsIn K mainGlobals "NoText" = some (some (.ref E_NoText))) (xl_NoText:K.lookup E_NoText = some (PySem.excClassObj nm_NoText qn_NoText E_NoText N_NoText bs_NoText bm_NoText true sn_NoText sub_NoText ab_NoText col_NoText dd_NoText m0_NoText m1_NoText m2_NoText m3_NoText m5_NoText "ValueError.__new__")) (rv_NoText:PySem.HandSPX.refsVE bm_NoText = true)
 (sa_NoText:PySem.W.findIn K (.ref E_NoText) "__setattr__" = some (some (.builtin "object.__setattr__"))) (be_NoText:PySem.W.subIn K (.ref E_NoText) (.type "BaseException") = some true) (ty_NoText:PySem.W.typeIn K (.ref E_NoText) = some (.type "type")) (kp_NoText:PySem.W.keepIn K (.ref E_NoText) = true) (at_xNoText:PySem.W.findIn K (.ref E_NoText) "__init__" = some (some (.ref f_einit))) (wn_NoText:PySem.W.findIn K (.ref E_NoText) "what" = some none) (hx_NoText:PySem.W.hasDictIn K E_NoText = true)
 (a_AskError:PySem.W.nsIn K mainGlobals "AskError" = some (some (.ref E_AskError))) (xl_AskError:K.lookup E_AskError = some (PySem.excClassObj nm_AskError qn_AskError E_AskError N_AskError bs_AskError bm_AskError true sn_AskError sub_AskError ab_AskError col_AskError dd_AskError m0_AskError m1_AskError m2_AskError m3_AskError m5_AskError "ValueError.__new__")) (rv_AskError:PySem.HandSPX.refsVE bm_AskError = true)
 (sa_AskError:PySem.W.findIn K (.ref E_AskError) "__setattr__" = some (some (.builtin "object.__setattr__"))) (be_AskError:PySem.W.subIn K (.ref E_AskError) (.type "BaseException") = some true) (ty_AskError:PySem.W.typeIn K (.ref E_AskError) = some (.type "type")) (kp_AskError:PySem.W.keepIn K (.ref E_AskError) = true) (at_xAskError:PySem.W.findIn K (.ref E_AskError) "__init__" = some (some (.ref f_einit))) (wn_AskError:PySem.W.findIn K (.ref E_AskError) "what" = some none) (hx_AskError:PySem.W.hasDictIn K E_AskError = true)
 (sub_NoRules_NoRules:PySem.W.subIn K (.ref E_NoRules) (.ref E_NoRules) = some true)
 (c_LETTERS:PySem.W.nsIn K mainGlobals "LETTERS" = some (some (.str "abcdefghijklmnopqrstuvwxyz" k_LETTERS)))
 (c_MOST_LETTERS:PySem.W.nsIn K mainGlobals "MOST_LETTERS" = some (some (.int 8 k_MOST_LETTERS)))
 (c_SAME:PySem.W.nsIn K mainGlobals "SAME" = some (some (.str "same" k_SAME)))
 (c_FIGURES:PySem.W.nsIn K mainGlobals "FIGURES" = some (some (.str "0123456789" k_FIGURES)))
 (c_MOST_FIGURES:PySem.W.nsIn K mainGlobals "MOST_FIGURES" = some (some (.int 60 k_MOST_FIGURES)))
 (c_MOST_TEXT:PySem.W.nsIn K mainGlobals "MOST_TEXT" = some (some (.int 12 k_MOST_TEXT)))
 (a_NO_RELATIONS:PySem.W.nsIn K mainGlobals "NO_RELATIONS" = some (some (.ref D_NO_RELATIONS))) (l_NO_RELATIONS:K.lookup D_NO_RELATIONS = some ⟨.type "tuple",none,.seq it_NO_RELATIONS np_NO_RELATIONS,sl_NO_RELATIONS⟩) (zt_NO_RELATIONS:L2.Vals ((["if", "not"]:List Str).map L2.V.str) it_NO_RELATIONS.toList)
 (a_ROOMS:PySem.W.nsIn K mainGlobals "ROOMS" = some (some (.ref D_ROOMS))) (l_ROOMS:K.lookup D_ROOMS = some ⟨.type "dict",none,.dict en_ROOMS ep_ROOMS,#[]⟩) (zs_ROOMS:(D_ROOMS == sysModules) = false) (zr_ROOMS:RowsLit w.params en_ROOMS.toList rs_ROOMS)
 (n_all:PySem.W.nsIn K mainGlobals "all" = some none)
 (n_any:PySem.W.nsIn K mainGlobals "any" = some none)
 (n_bool:PySem.W.nsIn K mainGlobals "bool" = some none)
 (n_dict:PySem.W.nsIn K mainGlobals "dict" = some none)
 (n_int:PySem.W.nsIn K mainGlobals "int" = some none)
 (n_isinstance:PySem.W.nsIn K mainGlobals "isinstance" = some none)
 (n_len:PySem.W.nsIn K mainGlobals "len" = some none)
 (n_list:PySem.W.nsIn K mainGlobals "list" = some none)
 (n_max:PySem.W.nsIn K mainGlobals "max" = some none)
 (n_range:PySem.W.nsIn K mainGlobals "range" = some none)
 (n_set:PySem.W.nsIn K mainGlobals "set" = some none)
 (n_sorted:PySem.W.nsIn K mainGlobals "sorted" = some none)
 (n_str:PySem.W.nsIn K mainGlobals "str" = some none)
 (n_tuple:PySem.W.nsIn K mainGlobals "tuple" = some none) :
 ∃ fd:FuncData,(∀ (s:Shared) (u:Value),BindsTo s fd ⟨[u],[]⟩ [("_law_script",u)])∧∀ base:Heap,K.In base→base.Ns mainGlobals mg→FnOk l.prog w K mg base (L2.CX l.prog w) 16 fa fd ["_law_script"] (spLaw K 63):=by
 have e:=hfa.symm.trans (PySem.W.mg_of X G a_law)
 cases e
 exact ⟨_,fun s v => .of_eq rfl,fun base _ _ => fn_law hmain (ok_law (mkTx X G l_q15 c_q15 k_q15 a_q15 l_q20 c_q20 k_q20 a_q20 l_q5 c_q5 k_q5 a_q5 l_q23 c_q23 k_q23 a_q23 l_q13 c_q13 k_q13 a_q13 l_q32 c_q32 k_q32 a_q32 l_q27 c_q27 k_q27 a_q27 l_q26 c_q26 k_q26 a_q26 l_q29 c_q29 k_q29 a_q29 l_q30 c_q30 k_q30 a_q30 l_q24 c_q24 k_q24 a_q24 l_q28 c_q28 k_q28 a_q28 l_q4 c_q4 k_q4 a_q4 l_q35 c_q35 k_q35 a_q35 l_q25 c_q25 k_q25 a_q25 l_q33 c_q33 k_q33 a_q33 l_q31 c_q31 k_q31 a_q31 l_q12 c_q12 k_q12 a_q12 l_q34 c_q34 k_q34 a_q34 l_q7 c_q7 k_q7 a_q7 l_q21 c_q21 k_q21 a_q21 l_q16 c_q16 k_q16 a_q16 l_q9 c_q9 k_q9 a_q9 l_q10 c_q10 k_q10 a_q10 l_q19 c_q19 k_q19 a_q19 l_q8 c_q8 k_q8 a_q8 l_q14 c_q14 k_q14 a_q14 l_q6 c_q6 k_q6 a_q6 l_q17 c_q17 k_q17 a_q17 l_q2 c_q2 k_q2 a_q2 l_q18 c_q18 k_q18 a_q18 l_q22 c_q22 k_q22 a_q22 l_q11 c_q11 k_q11 a_q11 l_q3 c_q3 k_q3 a_q3 l_q1 c_q1 k_q1 a_q1 l_q0 c_q0 k_q0 a_q0 l_law c_law k_law a_law l_einit c_einit k_einit ti_einit cg cta a_NoRules xl_NoRules rv_NoRules sa_NoRules be_NoRules ty_NoRules kp_NoRules at_xNoRules wn_NoRules hx_NoRules a_NoText xl_NoText rv_NoText sa_NoText be_NoText ty_NoText kp_NoText at_xNoText wn_NoText hx_NoText a_AskError xl_AskError rv_AskError sa_AskError be_AskError ty_AskError kp_AskError at_xAskError wn_AskError hx_AskError sub_NoRules_NoRules c_LETTERS c_MOST_LETTERS c_SAME c_FIGURES c_MOST_FIGURES c_MOST_TEXT a_NO_RELATIONS l_NO_RELATIONS zt_NO_RELATIONS a_ROOMS l_ROOMS zs_ROOMS zr_ROOMS n_all n_any n_bool n_dict n_int n_isinstance n_len n_list n_max n_range n_set n_sorted n_str n_tuple))⟩
end K59
namespace RU
open PySem PySem.Spec PL L2 PyProof.Rows TL
theorem join_one (s x:Str):Txt.join s [x] = x:=by rw [join_eq]; rfl
theorem join_two (s x y:Str) (r:List Str):Txt.join s (x :: y :: r) = x ++ s ++ Txt.join s (y :: r):=by rw [join_eq,join_eq]; rfl
theorem app_len (x y:Str):(x ++ y).length = x.length + y.length:=Str.length_append x y
theorem join_len (s:Str):∀ ys:List Str,(Txt.join s ys).length ≤ (ys.map (·.length)).sum + ys.length * s.length
 | [] => by rw [join_eq]; show Str.length _ ≤ _; simp [Str.join,Str.length,Str.empty]
 | [x] => by rw [join_one]; simp
 | x :: y :: r => by
  have:=join_len s (y :: r)
  rw [join_two,app_len,app_len]
  simp only [List.map_cons,List.sum_cons,List.length_cons,Nat.succ_mul] at this ⊢
  omega
theorem sum_le {ys:List Str} {k:Nat} (h:∀ y ∈ ys,y.length ≤ k):(ys.map (·.length)).sum ≤ ys.length * k:=by
 induction ys with
 | nil => simp
 | cons y ys ih =>
  have h1:=h y (by simp)
  have h2:=ih fun z hz => h z (by simp [hz])
  simp only [List.map_cons,List.sum_cons,List.length_cons,Nat.succ_mul]
  omega
theorem join_le {s:Str} {ys:List Str} {k:Nat} (h:∀ y ∈ ys,y.length ≤ k):(Txt.join s ys).length ≤ ys.length * (k + s.length):=by
 have h1:=join_len s ys
 have h2:=sum_le h
 rw [Nat.mul_add]
 omega
theorem tl_join_mem {s:Str} {c:Nat}:∀ {ys:List Str},c ∈ tl (Txt.join s ys)→c ∈ tl s ∨ ∃ y ∈ ys,c ∈ tl y
 | [],h => by rw [join_eq] at h; cases h
 | [x],h => by rw [join_one] at h; exact .inr ⟨x,by simp,h⟩
 | x :: y :: r,h => by
  rw [join_two,tl_append,tl_append] at h
  simp only [List.mem_append] at h
  rcases h with (h | h) | h
  ·exact .inr ⟨x,by simp,h⟩
  ·exact .inl h
  ·rcases tl_join_mem h with q | ⟨z,hz,q⟩
   ·exact .inl q
   ·exact .inr ⟨z,by simp [hz],q⟩
def nS (i:Int):Str:=toString i
theorem nS_nat (n:Nat):tl (nS (n:Int)) = numL n:=tl_num n
theorem nS_neg (n:Nat):tl (nS (-((n + 1:Nat):Int))) = 45 :: numL (n + 1):=by
 have e:(toString (-((n + 1:Nat):Int)):String) = "-" ++ toString (((n + 1:Nat)):Int):=by rfl
 show tl (Str.ofString (toString (-((n + 1:Nat):Int)))) = _
 rw [e]
 have h2:Str.ofString ("-" ++ toString (((n + 1:Nat)):Int)) = Str.ofString "-" ++ Str.ofString (toString (((n + 1:Nat)):Int)):=by
  refine ext_tl ?_
  rw [tl_append]
  rw [Str.ofString_eq_toList,Str.ofString_eq_toList,Str.ofString_eq_toList]
  simp [tl]
 rw [h2,tl_append,tl_num]
 rfl
theorem numL_head {n:Nat} (h:0 < n):∃ c r,numL n = c :: r∧49 ≤ c∧c ≤ 57:=by
 induction n using Nat.strongRecOn with
 | _ n ih =>
  by_cases c:n < 10
  ·exact ⟨48 + n,[],numL_lt c,by omega,by omega⟩
  ·obtain ⟨c,r,e,h1,h2⟩:=ih (n / 10) (by omega) (by omega)
   refine ⟨c,r ++ [48 + n % 10],?_,h1,h2⟩
   rw [numL_step (by omega),e]
   rfl
def SmI (i:Int):Prop:=-1000000000000000000000000000000000000000000000000000000000000 < i∧i < 1000000000000000000000000000000000000000000000000000000000000
theorem numL_60 {n:Nat} (h:(n:Int) < 1000000000000000000000000000000000000000000000000000000000000):(numL n).length ≤ 60:=numL_len (by decide) (by
 have:(10:Nat) ^ 60 = 1000000000000000000000000000000000000000000000000000000000000:=by decide
 rw [this]; omega)
theorem nS_cases (i:Int) (h:SmI i):(∃ n:Nat,i = (n:Int)∧tl (nS i) = numL n∧(numL n).length ≤ 60) ∨ ∃ n:Nat,i = -((n + 1:Nat):Int)∧tl (nS i) = 45 :: numL (n + 1)∧(numL (n + 1)).length ≤ 60:=by
 unfold SmI at h
 rcases Int.lt_or_le i 0 with hi | hi
 ·obtain ⟨n,rfl⟩:∃ n:Nat,i = -((n + 1:Nat):Int):=⟨i.natAbs - 1,by omega⟩
  exact .inr ⟨n,rfl,nS_neg n,numL_60 (by omega)⟩
 ·obtain ⟨n,rfl⟩:∃ n:Nat,i = (n:Int):=⟨i.toNat,by omega⟩
  exact .inl ⟨n,rfl,nS_nat n,numL_60 (by omega)⟩
theorem nS_int (i:Int) (h:SmI i):PySem.intText? (nS i) = some i∧(nS i).length ≤ 61∧1 ≤ (nS i).length:=by
 rcases nS_cases i h with ⟨n,rfl,e,hl⟩ | ⟨n,rfl,e,hl⟩
 ·refine ⟨int_num (by omega),?_,?_⟩
  ·rw [len_tl,e]; omega
  ·rw [len_tl,e]
   have:=numL_ne n
   exact List.length_pos_iff.mpr this
 ·have hl2:(nS (-((n + 1:Nat):Int))).length = (numL (n + 1)).length + 1:=by rw [len_tl,e]; rfl
  refine ⟨?_,by omega,by omega⟩
  have:=PySem.intText_neg (x:=nS (-((n + 1:Nat):Int))) e (numL_digits _) (numL_ne _) (by omega)
  rw [this,numL_val]
theorem log_60 {i:Int} (h:SmI i):i.natAbs.log2 < 1920:=by
 unfold SmI at h
 by_cases z:i.natAbs = 0
 ·rw [z]; decide
 ·rw [Nat.log2_lt z]
  have h1:i.natAbs < 10 ^ 60:=by
   have:(10:Nat) ^ 60 = 1000000000000000000000000000000000000000000000000000000000000:=by decide
   rw [this]; omega
  exact Nat.lt_of_lt_of_le (Nat.lt_trans h1 (show 10 ^ 60 < 2 ^ 200 by decide)) (Nat.pow_le_pow_right (by decide) (by decide))
structure Wd (w:Str):Prop where
 f:Fair w
 b:32 ∉ tl w
 s:59 ∉ tl w
 l:w.length ≤ 64
def lnT (l:List Str):Str:=Txt.join (Str.ofString " ") l
end RU
namespace RQ
open PySem PySem.Spec PL L2 PyProof.Rows TL RU
open Classical
inductive Trm where
 | name (x:Str) | num (i:Int) | txt (x:Str)
abbrev Atm:=Str × List Trm
abbrev Lit:=Str × List Trm × Bool
abbrev Rul:=Atm × List Lit
def Trm.pv:Trm→PV
 | .name x => .tup [.str "name",.str x]
 | .num i => .tup [.str "is",.int i]
 | .txt x => .tup [.str "is",.str x]
def atmP (a:Atm):PV:=.tup [.str a.1,.tup (a.2.map Trm.pv)]
def litP (l:Lit):PV:=.tup [.str l.1,.tup (l.2.1.map Trm.pv),.bl l.2.2]
def rulP (r:Rul):PV:=.tup [atmP r.1,.tup (r.2.map litP)]
def tmT:Trm→Str
 | .name x => Str.ofString "?" ++ x
 | .num i => nS i
 | .txt x => Str.ofString "'" ++ x ++ Str.ofString "'"
def atT (a:Atm):Str:=lnT (a.1 :: a.2.map tmT)
def liA (l:Lit):Atm:=(l.1,l.2.1)
def liT (l:Lit):Str:=if l.2.2 = true then atT (liA l) else Str.ofString "not " ++ atT (liA l)
def ruT (r:Rul):Str:=if r.2 = [] then atT r.1 else atT r.1 ++ Str.ofString " if " ++ Txt.join (Str.ofString ", ") (r.2.map liT)
def rsT (rs:List Rul):Str:=if rs = [] then Str.ofString "-" else Txt.join (Str.ofString "; ") (rs.map ruT)
def allO {α : Type}:List (Option α)→Option (List α)
 | [] => some []
 | none :: _ => none
 | some a :: r => (allO r).map fun as => a :: as
theorem allO_some {α : Type}:∀ {l:List (Option α)} {as:List α},allO l = some as↔l = as.map some
 | [],as => by cases as <;> simp [allO]
 | none :: l,as => by cases as <;> simp [allO]
 | some a :: l,as => by
  simp only [allO,Option.map_eq_some_iff]
  constructor
  ·rintro ⟨r,h1,rfl⟩
   rw [allO_some.mp h1]; rfl
  ·intro h
   cases as with
   | nil => simp at h
   | cons b as =>
    simp only [List.map_cons,List.cons.injEq,Option.some.injEq] at h
    exact ⟨as,allO_some.mpr h.2,by rw [h.1]⟩
theorem allO_map {α : Type} (as:List α):allO (as.map some) = some as:=allO_some.mpr rfl
def DigS (x:Str):Prop:=∀ c ∈ ch x,48 ≤ c∧c ≤ 57
noncomputable def figsT (t:Str):Str:=if cutS t none (some 1) = Str.ofString "-" then cutS t (some 1) none else t
def WhOk (t:Str):Prop:=1 ≤ (figsT t).length∧(figsT t).length ≤ 60∧DigS (figsT t)∧¬ ((∃ r,ch (figsT t) = 48 :: r)∧t ≠ Str.ofString "0")
noncomputable def rdWhole (t:Str):Option Int:=if WhOk t then PySem.intText? t else none
def inT (w:Str):Str:=cutS w (some 1) (some (-1))
def TxOk (w:Str):Prop:=w = Str.ofString "'" ++ inT w ++ Str.ofString "'"∧1 ≤ (inT w).length∧(inT w).length ≤ 12∧Lw (inT w)
noncomputable def rdTm (w:Str):Option Trm :=
 if cutS w none (some 1) = Str.ofString "?" then (if Nm (cutS w (some 1) none) then some (.name (cutS w (some 1) none)) else none)
 else if cutS w none (some 1) = Str.ofString "'" then (if TxOk w then some (.txt (inT w)) else none)
 else (rdWhole w).map .num
def RlOk (x:Str):Prop:=Nm x∧x ≠ Str.ofString "if"∧x ≠ Str.ofString "not"
noncomputable def rdAt:List Str→Option Atm
 | [] => none
 | x :: ws => if RlOk x then (allO (ws.map rdTm)).map fun ts => (x,ts) else none
noncomputable def rdLi (t:Str):Option Lit :=
 match Txt.split t (Str.ofString " ") with
 | [] => none
 | w :: ws => if w = Str.ofString "not" then (rdAt ws).map fun a => (a.1,a.2,false) else (rdAt (w :: ws)).map fun a => (a.1,a.2,true)
noncomputable def rdBo (m b:Str):Option (List Lit):=if m ≠ Str.ofString "" then allO ((Txt.split b (Str.ofString ", ")).map rdLi) else some []
noncomputable def rdRu (t:Str):Option Rul :=
 (rdAt (Txt.split (Txt.partition t (Str.ofString " if ")).1 (Str.ofString " "))).bind fun h => (rdBo (Txt.partition t (Str.ofString " if ")).2.1 (Txt.partition t (Str.ofString " if ")).2.2).map fun b => (h,b)
noncomputable def rdRs (t:Str):Option (List Rul):=if t = Str.ofString "-" then some [] else allO ((Txt.split t (Str.ofString "; ")).map rdRu)
def TmOk:Trm→Prop
 | .name x => Nm x
 | .num i => SmI i
 | .txt x => Lw x∧1 ≤ x.length∧x.length ≤ 12
def AtOk (a:Atm):Prop:=RlOk a.1∧∀ t ∈ a.2,TmOk t
def RuOk (r:Rul):Prop:=AtOk r.1∧∀ l ∈ r.2,AtOk (liA l)
theorem ch_first (x:Str):ch (cutS x none (some 1)) = (ch x).take 1:=by
 have hu:HT.sIx x.length x.length (some 1) = min 1 x.length:=HT.sIx_nat x.length x.length 1
 rw [ch_cut,HT.sIx_none,hu,List.drop_zero,Nat.sub_zero]
 have:=ch_len x
 cases h:ch x with
 | nil => simp
 | cons c r => rw [h] at this; simp at this; rw [show min 1 x.length = 1 by omega]
theorem ch_rest (x:Str):ch (cutS x (some 1) none) = (ch x).drop 1:=by
 have hu:HT.sIx x.length 0 (some 1) = min 1 x.length:=HT.sIx_nat x.length 0 1
 rw [ch_cut,HT.sIx_none,hu]
 have:=ch_len x
 cases h:ch x with
 | nil => simp
 | cons c r =>
  rw [h] at this; simp at this
  rw [show min 1 x.length = 1 by omega]
  exact List.take_of_length_le (by simp; omega)
theorem one_ch (c:Nat) (s:String) (h:ch (Str.ofString s) = [c]) (x:Str):cutS x none (some 1) = Str.ofString s↔∃ r,ch x = c :: r:=by
 constructor
 ·intro e
  have e1:=congrArg ch e
  rw [ch_first,h] at e1
  cases q:ch x with
  | nil => rw [q] at e1; simp at e1
  | cons d r => rw [q] at e1; simp at e1; exact ⟨r,by rw [e1]⟩
 ·rintro ⟨r,e⟩
  refine ch_ext ?_
  rw [ch_first,e,h]; rfl
theorem c_min:ch (Str.ofString "-") = [45]:=by decide +kernel
theorem c_que:ch (Str.ofString "?") = [63]:=by decide +kernel
theorem c_quo:ch (Str.ofString "'") = [39]:=by decide +kernel
theorem c_zero:ch (Str.ofString "0") = [48]:=by decide +kernel
theorem rdWhole_nS {i:Int} (h:SmI i):rdWhole (nS i) = some i:=by
 have hn:=nS_int i h
 unfold rdWhole
 rw [if_pos,hn.1]
 rcases nS_cases i h with ⟨m,him,e,h60⟩ | ⟨m,him,e,h60⟩
 ·have hm:¬ cutS (nS i) none (some 1) = Str.ofString "-" := fun z => by
   obtain ⟨r,hr⟩:=(one_ch 45 "-" c_min _).mp z
   have:(45:Nat) ∈ numL m:=by rw [← e]; show 45 ∈ ch (nS i); rw [hr]; simp
   have:=numL_digits m 45 this
   omega
  have hf:figsT (nS i) = nS i:=if_neg hm
  have hl:(nS i).length = (numL m).length:=by rw [len_tl,e]
  refine ⟨by rw [hf]; exact hn.2.2,by rw [hf]; omega,fun c hc => ?_,?_⟩
  ·rw [hf] at hc
   exact numL_digits m c (by rw [← e]; exact hc)
  ·rintro ⟨⟨r,hr⟩,h0⟩
   rw [hf] at hr
   have hr:numL m = 48 :: r:=by rw [← e]; exact hr
   by_cases z:0 < m
   ·obtain ⟨c',r',e',h1,_⟩:=numL_head z
    rw [e'] at hr
    have:=(List.cons.inj hr).1
    omega
   ·have hm0:m = 0:=by omega
    subst hm0
    apply h0
    rw [him]
    decide +kernel
 ·have hr:ch (nS i) = 45 :: numL (m + 1):=e
  have hf:figsT (nS i) = cutS (nS i) (some 1) none:=if_pos ((one_ch 45 "-" c_min _).mpr ⟨_,hr⟩)
  have hfr:ch (figsT (nS i)) = numL (m + 1):=by rw [hf,ch_rest,hr]; rfl
  have hl:(figsT (nS i)).length = (numL (m + 1)).length:=by rw [← ch_len,hfr]
  refine ⟨by rw [hl]; exact List.length_pos_iff.mpr (numL_ne _),by omega,fun c hc => ?_,?_⟩
  ·rw [hfr] at hc
   exact numL_digits (m + 1) c hc
  ·rintro ⟨⟨r,hr2⟩,h0⟩
   rw [hfr] at hr2
   obtain ⟨c',r',e',h1,_⟩:=numL_head (n:=m + 1) (by omega)
   rw [e'] at hr2
   have:=(List.cons.inj hr2).1
   omega
theorem whOk_len {t:Str} (h:WhOk t):t.length ≤ 61∧∃ i,PySem.intText? t = some i:=by
 obtain ⟨w1,w2,w3,w4⟩:=h
 have hfl:=ch_len (figsT t)
 by_cases hm:cutS t none (some 1) = Str.ofString "-"
 ·have hf:figsT t = cutS t (some 1) none:=if_pos hm
  obtain ⟨r,hr⟩:=(one_ch 45 "-" c_min t).mp hm
  have hfr:ch (figsT t) = r:=by rw [hf,ch_rest,hr]; rfl
  rw [hfr] at hfl
  have htl:t.length = r.length + 1:=by rw [← ch_len,hr]; rfl
  refine ⟨by omega,_,PySem.intText_neg (x:=t) (cs:=r) hr (fun c hc => w3 c (by rw [hfr]; exact hc)) (fun z => by rw [z] at hfl; simp at hfl; omega) (by omega)⟩
 ·have hf:figsT t = t:=if_neg hm
  rw [hf] at w1 w2 w3 hfl
  exact ⟨by omega,_,PySem.intText_digits (x:=t) w3 (fun z => by
   have:ch t = []:=z
   rw [this] at hfl; simp at hfl; omega) (by omega)⟩
theorem rdWhole_ok {t:Str} (h:WhOk t):∃ i,PySem.intText? t = some i∧rdWhole t = some i:=by
 obtain ⟨_,i,hi⟩:=whOk_len h
 exact ⟨i,hi,by unfold rdWhole; rw [if_pos h,hi]⟩
theorem rdWhole_no {t:Str} (h:¬ WhOk t):rdWhole t = none:=by unfold rdWhole; rw [if_neg h]
theorem nS_head {i:Int} (h:SmI i):∃ c r,ch (nS i) = c :: r∧(c = 45 ∨ (48 ≤ c∧c ≤ 57)):=by
 rcases nS_cases i h with ⟨m,him,e,h60⟩ | ⟨m,him,e,h60⟩
 ·obtain ⟨c,r,hcr⟩:∃ c r,numL m = c :: r:=List.exists_cons_of_ne_nil (numL_ne m)
  exact ⟨c,r,by rw [← hcr]; exact e,.inr (numL_digits m c (by rw [hcr]; simp))⟩
 ·exact ⟨45,_,e,.inl rfl⟩
theorem ch_inner (x:Str):inT (Str.ofString "'" ++ x ++ Str.ofString "'") = x:=by
 obtain ⟨w,hw⟩:∃ w,w = Str.ofString "'" ++ x ++ Str.ofString "'" := ⟨_,rfl⟩
 rw [← hw]
 have hc:ch w = 39 :: (ch x ++ [39]):=by rw [hw,ch_app,ch_app,c_quo]; simp
 have hl:w.length = x.length + 2:=by rw [← ch_len,hc]; simp [ch_len]
 refine ch_ext ?_
 unfold inT
 rw [ch_cut]
 have h1:HT.sIx w.length 0 (some 1) = 1:=by
  rw [show (some (1:Int)) = some ((1:Nat):Int) from rfl,HT.sIx_nat]; omega
 have h2:HT.sIx w.length w.length (some (-1)) = w.length - 1:=by
  have:=HT.clip_eq (-1) w.length w.length
  rw [if_pos (by decide)] at this
  omega
 rw [h1,h2,hc,hl]
 have:=ch_len x
 simp [List.take_append_of_le_length,this]
theorem rdTm_show {t:Trm} (h:TmOk t):rdTm (tmT t) = some t:=by
 unfold rdTm
 cases t with
 | name x =>
  have hc:ch (tmT (.name x)) = 63 :: ch x:=by show ch (Str.ofString "?" ++ x) = _; rw [ch_app,c_que]; rfl
  have e:cutS (tmT (.name x)) (some 1) none = x:=ch_ext (by rw [ch_rest,hc]; rfl)
  rw [if_pos ((one_ch 63 "?" c_que _).mpr ⟨_,hc⟩),e,if_pos (show Nm x from h)]
 | num i =>
  obtain ⟨c,r,hc,hr⟩:=nS_head h
  rw [if_neg,if_neg]
  ·show (rdWhole (nS i)).map Trm.num = _
   rw [rdWhole_nS h]; rfl
  ·intro z
   obtain ⟨r',hr'⟩:=(one_ch 39 "'" c_quo _).mp z
   have hr':ch (nS i) = _:=hr'
   rw [hc] at hr'
   have:=(List.cons.inj hr').1
   omega
  ·intro z
   obtain ⟨r',hr'⟩:=(one_ch 63 "?" c_que _).mp z
   have hr':ch (nS i) = _:=hr'
   rw [hc] at hr'
   have:=(List.cons.inj hr').1
   omega
 | txt x =>
  have hc:ch (tmT (.txt x)) = 39 :: (ch x ++ [39]):=by show ch (Str.ofString "'" ++ x ++ Str.ofString "'") = _; rw [ch_app,ch_app,c_quo]; simp
  have hi:inT (tmT (.txt x)) = x:=ch_inner x
  rw [if_neg,if_pos ((one_ch 39 "'" c_quo _).mpr ⟨_,hc⟩),if_pos,hi]
  ·exact ⟨by rw [hi]; rfl,by rw [hi]; exact h.2.1,by rw [hi]; exact h.2.2,by rw [hi]; exact h.1⟩
  ·intro z
   obtain ⟨r',hr'⟩:=(one_ch 63 "?" c_que _).mp z
   rw [hc] at hr'
   have:=(List.cons.inj hr').1
   omega
theorem rdAt_cons (x:Str) (ws:List Str):rdAt (x :: ws) = if RlOk x then (allO (ws.map rdTm)).map fun ts => (x,ts) else none:=rfl
theorem rdAt_show {a:Atm} (h:AtOk a):rdAt (a.1 :: a.2.map tmT) = some a:=by
 rw [rdAt_cons,if_pos h.1,List.map_map]
 have:(a.2.map (rdTm ∘ tmT)) = a.2.map some:=List.map_congr_left fun t ht => rdTm_show (h.2 t ht)
 rw [this,allO_map]
 rfl
structure Wo (w:Str):Prop where
 b:32 ∉ ch w
 c:44 ∉ ch w
 s:59 ∉ ch w
 n:w ≠ Str.ofString "if"
theorem lw_wo {x:Str} (h:Lw x) (n:x ≠ Str.ofString "if"):Wo x :=
 ⟨fun z => by have:=h _ z; unfold Lt at this; omega,fun z => by have:=h _ z; unfold Lt at this; omega,fun z => by have:=h _ z; unfold Lt at this; omega,n⟩
theorem c_if:ch (Str.ofString "if") = [105,102]:=by decide +kernel
theorem c_not:ch (Str.ofString "not") = [110,111,116]:=by decide +kernel
theorem c_not_:ch (Str.ofString "not ") = [110,111,116,32]:=by decide +kernel
theorem c_sp:ch (Str.ofString " ") = [32]:=by decide +kernel
theorem c_co:ch (Str.ofString ", ") = [44,32]:=by decide +kernel
theorem c_se:ch (Str.ofString "; ") = [59,32]:=by decide +kernel
theorem c_if_:ch (Str.ofString " if ") = [32,105,102,32]:=by decide +kernel
theorem tm_wo {t:Trm} (h:TmOk t):Wo (tmT t):=by
 cases t with
 | name x =>
  have hc:ch (tmT (.name x)) = 63 :: ch x:=by show ch (Str.ofString "?" ++ x) = _; rw [ch_app,c_que]; rfl
  have h:Nm x:=h
  refine ⟨fun z => ?_,fun z => ?_,fun z => ?_,fun z => ?_⟩
  ·rw [hc] at z; simp at z; have:=h.l _ z; unfold Lt at this; omega
  ·rw [hc] at z; simp at z; have:=h.l _ z; unfold Lt at this; omega
  ·rw [hc] at z; simp at z; have:=h.l _ z; unfold Lt at this; omega
  ·rw [z,c_if] at hc; simp at hc
 | num i =>
  have key:∀ c ∈ ch (nS i),c = 45 ∨ (48 ≤ c∧c ≤ 57):=by
   intro c hc
   rcases nS_cases i h with ⟨n,_,e,_⟩ | ⟨n,_,e,_⟩
   ·have hc:c ∈ tl (nS i):=hc
    rw [e] at hc; exact .inr (numL_digits n c hc)
   ·have hc:c ∈ tl (nS i):=hc
    rw [e] at hc
    rcases List.mem_cons.mp hc with q | q
    ·exact .inl q
    ·exact .inr (numL_digits _ c q)
  refine ⟨fun z => ?_,fun z => ?_,fun z => ?_,fun z => ?_⟩
  ·have:=key 32 z; omega
  ·have:=key 44 z; omega
  ·have:=key 59 z; omega
  ·have:=key 105 (by rw [show nS i = _ from z,c_if]; simp); omega
 | txt x =>
  have hc:ch (tmT (.txt x)) = 39 :: (ch x ++ [39]):=by show ch (Str.ofString "'" ++ x ++ Str.ofString "'") = _; rw [ch_app,ch_app,c_quo]; simp
  have h:Lw x:=h.1
  refine ⟨fun z => ?_,fun z => ?_,fun z => ?_,fun z => ?_⟩
  ·rw [hc] at z; simp at z; have:=h _ z; unfold Lt at this; omega
  ·rw [hc] at z; simp at z; have:=h _ z; unfold Lt at this; omega
  ·rw [hc] at z; simp at z; have:=h _ z; unfold Lt at this; omega
  ·rw [z,c_if] at hc; simp at hc
theorem at_wo {a:Atm} (h:AtOk a):∀ w ∈ a.1 :: a.2.map tmT,Wo w:=fun w hw => by
 rcases List.mem_cons.mp hw with rfl | hw
 ·exact lw_wo h.1.1.l h.1.2.1
 ·obtain ⟨t,ht,rfl⟩:=List.mem_map.mp hw
  exact tm_wo (h.2 t ht)
theorem ln_free {c:Nat} (hc:c ≠ 32) {ws:List Str} (h:∀ w ∈ ws,c ∉ ch w):c ∉ ch (lnT ws):=fun z => by
 rcases tl_join_mem z with q | ⟨w,hw,q⟩
 ·have:c ∈ ch (Str.ofString " "):=q
  rw [c_sp] at this; simp at this; exact hc this
 ·exact h w hw q
theorem split_ln {ws:List Str} (hne:ws ≠ []) (h:∀ w ∈ ws,32 ∉ ch w):Txt.split (lnT ws) (Str.ofString " ") = ws :=
 split_join (s:=32) (S:=[]) c_sp (by decide +kernel) hne h
theorem at_split {a:Atm} (h:AtOk a):Txt.split (atT a) (Str.ofString " ") = a.1 :: a.2.map tmT:=split_ln (by simp) fun w hw => (at_wo h w hw).b
theorem at_free {a:Atm} (h:AtOk a):44 ∉ ch (atT a)∧59 ∉ ch (atT a):=⟨ln_free (by decide) fun w hw => (at_wo h w hw).c,ln_free (by decide) fun w hw => (at_wo h w hw).s⟩
theorem li_free {l:Lit} (h:AtOk (liA l)):44 ∉ ch (liT l)∧59 ∉ ch (liT l):=by
 have ha:=at_free h
 unfold liT
 split
 ·exact ha
 ·rw [ch_app,c_not_]
  simp
  exact ha
theorem not_line (ws:List Str) (hne:ws ≠ []):lnT (Str.ofString "not" :: ws) = Str.ofString "not " ++ lnT ws:=by
 obtain ⟨a,r,rfl⟩:=List.exists_cons_of_ne_nil hne
 unfold lnT
 rw [join_two]
 have:Str.ofString "not " = Str.ofString "not" ++ Str.ofString " " := by decide +kernel
 rw [this]
theorem liT_line (l:Lit):liT l = lnT ((if l.2.2 = true then [] else [Str.ofString "not"]) ++ l.1 :: l.2.1.map tmT):=by
 unfold liT
 split
 ·rfl
 ·exact (not_line _ (by simp)).symm
theorem rdLi_of {t w:Str} {ws:List Str} (h:Txt.split t (Str.ofString " ") = w :: ws):rdLi t = if w = Str.ofString "not" then (rdAt ws).map fun a => (a.1,a.2,false) else (rdAt (w :: ws)).map fun a => (a.1,a.2,true):=by
 unfold rdLi
 rw [h]
theorem rdLi_show {l:Lit} (h:AtOk (liA l)):rdLi (liT l) = some l:=by
 have hw:=at_wo h
 obtain ⟨x,ts,b⟩:=l
 have hr:=rdAt_show h
 have hn:x ≠ Str.ofString "not" := h.1.2.2
 cases b with
 | true =>
  have hs:Txt.split (liT (x,ts,true)) (Str.ofString " ") = x :: ts.map tmT:=at_split h
  rw [rdLi_of hs,if_neg hn]
  show Option.map _ (rdAt ((liA (x,ts,true)).1 :: (liA (x,ts,true)).2.map tmT)) = _
  rw [hr]; rfl
 | false =>
  have hs:Txt.split (liT (x,ts,false)) (Str.ofString " ") = Str.ofString "not" :: x :: ts.map tmT:=by
   rw [liT_line]
   refine split_ln (by simp) fun w hm => ?_
   simp at hm
   rcases hm with rfl | hm
   ·rw [c_not]; simp
   ·exact (hw w (by simpa [liA] using hm)).b
  rw [rdLi_of hs,if_pos rfl]
  show Option.map _ (rdAt ((liA (x,ts,true)).1 :: (liA (x,ts,true)).2.map tmT)) = _
  have hr:rdAt ((liA (x,ts,true)).1 :: (liA (x,ts,true)).2.map tmT) = _:=hr
  rw [hr]; rfl
theorem split_back (t y:Str):Txt.join y (Txt.split t y) = t:=by rw [join_eq,StrLaws.join_split]
theorem if_free:∀ {ws:List (List Nat)},ws ≠ []→(∀ w ∈ ws,32 ∉ w∧w ≠ [105,102])→∀ (q:List Nat) (i:Nat),i < (joinL [32] ws).length→pre [32,105,102,32] ((joinL [32] ws ++ 32 :: q).drop i) = false
 | [],h,_,_,_,_ => absurd rfl h
 | [w],_,hw,q,i,hi => by
  have hi:i < w.length:=hi
  show pre _ ((w ++ 32 :: q).drop i) = false
  rw [List.drop_append_of_le_length (by omega)]
  obtain ⟨c,r,e⟩:∃ c r,w.drop i = c :: r:=⟨w[i],w.drop (i + 1),List.drop_eq_getElem_cons hi⟩
  rw [e]
  refine pre_of_head _ _ fun z => (hw w (by simp)).1 ?_
  exact List.mem_of_mem_drop (by rw [e,z]; simp)
 | w :: v :: ws,_,hw,q,i,hi => by
  have e0:joinL [32] (w :: v :: ws) = w ++ 32 :: joinL [32] (v :: ws):=by simp [joinL]
  rw [e0] at hi ⊢
  by_cases h1:i < w.length
  ·rw [List.append_assoc,List.drop_append_of_le_length (by omega)]
   obtain ⟨c,r,e⟩:∃ c r,w.drop i = c :: r:=⟨w[i],w.drop (i + 1),List.drop_eq_getElem_cons h1⟩
   rw [e]
   refine pre_of_head _ _ fun z => (hw w (by simp)).1 ?_
   exact List.mem_of_mem_drop (by rw [e,z]; simp)
  ·obtain ⟨j,rfl⟩:∃ j,i = w.length + j:=⟨i - w.length,by omega⟩
   rw [List.append_assoc,List.drop_append,List.drop_of_length_le (by omega),List.nil_append,show w.length + j - w.length = j by omega]
   cases j with
   | succ j =>
    show pre _ ((joinL [32] (v :: ws) ++ 32 :: q).drop j) = false
    refine if_free (by simp) (fun u hu => hw u (by simp at hu ⊢; exact .inr hu)) q j ?_
    simp at hi; omega
   | zero =>
    have hv:=hw v (by simp)
    obtain ⟨z,hz⟩:∃ z,joinL [32] (v :: ws) ++ 32 :: q = v ++ 32 :: z:=by
     cases ws with
     | nil => exact ⟨q,rfl⟩
     | cons u ws => exact ⟨joinL [32] (u :: ws) ++ 32 :: q,by simp [joinL]⟩
    show pre [32,105,102,32] (32 :: (joinL [32] (v :: ws) ++ 32 :: q)) = false
    rw [hz]
    cases hb:pre [32,105,102,32] (32 :: (v ++ 32 :: z)) with
    | false => rfl
    | true =>
     exfalso
     have hb:((32 :: (v ++ 32 :: z)).take 4 == [32,105,102,32]) = true:=hb
     have hb:=eq_of_beq hb
     match v,hv with
     | [],_ => simp at hb
     | [a],hv => simp at hb
     | [a,b],hv => simp at hb; exact hv.2 (by rw [hb.1,hb.2])
     | a :: b :: c :: r,hv => simp at hb; exact hv.1 (by rw [hb.2.2]; simp)
theorem at_ch (a:Atm):ch (atT a) = joinL [32] ((a.1 :: a.2.map tmT).map ch):=by
 have:=tl_join (Str.ofString " ") (a.1 :: a.2.map tmT)
 rw [← join_eq] at this
 exact this
theorem at_words {a:Atm} (h:AtOk a):∀ w ∈ (a.1 :: a.2.map tmT).map ch,32 ∉ w∧w ≠ [105,102]:=fun w hw => by
 obtain ⟨v,hv,rfl⟩:=List.mem_map.mp hw
 have:=at_wo h v hv
 exact ⟨this.b,fun z => this.n (ch_ext (by rw [c_if]; exact z))⟩
theorem part_at {a:Atm} (h:AtOk a) (b:Str):Txt.partition (atT a ++ Str.ofString " if " ++ b) (Str.ofString " if ") = (atT a,Str.ofString " if ",b):=by
 have e:tl (Str.ofString " if ") = [32,105,102,32]:=c_if_
 rw [partition_par _ _ (by rw [e]; simp),tl_append,tl_append,List.append_assoc,e]
 have hp:=par_part (S:=[32,105,102,32]) (p:=ch (atT a)) (rest:=ch b) (acc:=[]) (by simp) fun i hi => by
  rw [at_ch] at hi ⊢
  exact if_free (by simp) (at_words h) _ i hi
 have hp:par [32,105,102,32] [] (tl (atT a) ++ ([32,105,102,32] ++ tl b)) = some ([] ++ tl (atT a),tl b):=hp
 rw [hp]
 show ((⟨([] ++ tl (atT a)).toArray⟩:Str),_,(⟨(tl b).toArray⟩:Str)) = _
 rw [List.nil_append,mk_tl,mk_tl]
theorem part_at0 {a:Atm} (h:AtOk a):Txt.partition (atT a) (Str.ofString " if ") = (atT a,Str.empty,Str.empty):=by
 have e:tl (Str.ofString " if ") = [32,105,102,32]:=c_if_
 rw [partition_par _ _ (by rw [e]; simp),e]
 have hp:=par_none (S:=[32,105,102,32]) (p:=ch (atT a)) (acc:=[]) fun i hi => by
  have hi':=hi
  rw [at_ch] at hi ⊢
  have h2:=if_free (by simp) (at_words h) [] i hi
  cases hb:pre [32,105,102,32] ((joinL [32] ((a.1 :: a.2.map tmT).map ch)).drop i) with
  | false => rfl
  | true =>
   exfalso
   have hb':(((joinL [32] ((a.1 :: a.2.map tmT).map ch)).drop i).take 4 == [32,105,102,32]) = true:=hb
   have hb':=eq_of_beq hb'
   have hl:=congrArg List.length hb'
   rw [List.length_take] at hl
   simp only [List.length_cons,List.length_nil] at hl
   have hcc:pre [32,105,102,32] ((joinL [32] ((a.1 :: a.2.map tmT).map ch) ++ [32]).drop i) = true:=by
    show ((_:List Nat).take 4 == _) = true
    rw [List.drop_append_of_le_length (by omega),List.take_append_of_le_length (by omega),hb']
    rfl
   rw [hcc] at h2; cases h2
 have hp:par [32,105,102,32] [] (tl (atT a)) = none:=hp
 rw [hp]
theorem part_back (t:Str):((Txt.partition t (Str.ofString " if ")).2.1 = Str.ofString " if "∧(Txt.partition t (Str.ofString " if ")).1 ++ Str.ofString " if " ++ (Txt.partition t (Str.ofString " if ")).2.2 = t) ∨ Txt.partition t (Str.ofString " if ") = (t,Str.empty,Str.empty):=by
 unfold Txt.partition
 obtain ⟨f,hf⟩:=StrLaws.occ_chain t (Str.ofString " if ") 1
 cases ho:Builtin.Str.occurrences t (Str.ofString " if ") 0 t.length 1 with
 | nil => exact .inr rfl
 | cons i r =>
  refine .inl ⟨rfl,?_⟩
  rw [ho] at hf
  have:=StrLaws.sub_cat t (Str.ofString " if ") hf.1 hf.2.1
  show Builtin.Str.strSub t 0 i ++ _ ++ Builtin.Str.strSub t (i + (Str.ofString " if ").length) t.length = t
  rw [this,StrLaws.sub_whole]
theorem e_str:Str.ofString "" = Str.empty:=by decide +kernel
theorem if_ne:Str.ofString " if " ≠ Str.ofString "" := by decide +kernel
theorem joint_split {s:Nat} {S:List Nat} {y:Str} (ey:ch y = s :: S) (hk:y.cps.all (· < 256) = true) {ps:List Str} (hne:ps ≠ []) (hp:∀ p ∈ ps,s ∉ ch p):Txt.split (Txt.join y ps) y = ps:=split_join ey hk hne hp
theorem rdRu_show {r:Rul} (h:RuOk r):rdRu (ruT r) = some r:=by
 obtain ⟨a,b⟩:=r
 have ha:AtOk a:=h.1
 unfold rdRu ruT
 split
 ·rename_i hb
  have hb:b = []:=hb
  subst hb
  show (rdAt (Txt.split (Txt.partition (atT a) _).1 _)).bind _ = _
  rw [part_at0 ha,at_split ha,rdAt_show ha]
  unfold rdBo
  rw [if_neg (by rw [e_str]; simp)]
  rfl
 ·rename_i hb
  have hb:b ≠ []:=hb
  show (rdAt (Txt.split (Txt.partition (atT a ++ _ ++ _) _).1 _)).bind _ = _
  rw [part_at ha,at_split ha,rdAt_show ha]
  unfold rdBo
  rw [if_pos if_ne,joint_split c_co (by decide +kernel) (by simpa using hb) (fun p hp => by
   obtain ⟨l,hl,rfl⟩:=List.mem_map.mp hp
   exact (li_free (h.2 l hl)).1),List.map_map]
  have:(b.map (rdLi ∘ liT)) = b.map some:=List.map_congr_left fun l hl => rdLi_show (h.2 l hl)
  show (some a).bind _ = _
  rw [this,allO_map]
  rfl
theorem split_ne (x y:Str):Txt.split x y ≠ []:=by
 unfold Txt.split
 split
 ·simp
 ·split
  ·simp
  ·rw [StrLaws.partsBetween_eq]
   obtain ⟨p,r,e⟩:=StrLaws.partsFrom_ne x y.length 0 (Builtin.Str.occurrences x y 0 x.length (x.length + 1))
   rw [e]; simp
theorem ru_free {r:Rul} (h:RuOk r):59 ∉ ch (ruT r):=by
 have ha:=(at_free h.1).2
 unfold ruT
 split
 ·exact ha
 ·rw [ch_app,ch_app,c_if_]
  intro z
  simp at z
  rcases z with z | z
  ·exact ha z
  ·rcases tl_join_mem z with q | ⟨w,hw,q⟩
   ·have:59 ∈ ch (Str.ofString ", "):=q
    rw [c_co] at this; simp at this
   ·obtain ⟨l,hl,rfl⟩:=List.mem_map.mp hw
    exact (li_free (h.2 l hl)).2 q
theorem rel_head {x:Str} (h:Nm x):∃ c r,ch x = c :: r∧Lt c:=by
 have:=ch_len x
 have hp:=h.p
 cases q:ch x with
 | nil => rw [q] at this; simp at this; omega
 | cons c r => exact ⟨c,r,rfl,h.l c (by rw [q]; simp)⟩
theorem at_head {a:Atm} (h:AtOk a):∃ c r,ch (atT a) = c :: r∧Lt c:=by
 obtain ⟨c,r,e,hl⟩:=rel_head h.1.1
 have:∃ r',joinL [32] ((a.1 :: a.2.map tmT).map ch) = c :: r':=by
  rw [List.map_cons,e]
  cases a.2.map tmT with
  | nil => exact ⟨r,rfl⟩
  | cons v vs => exact ⟨_,by simp only [List.map_cons,joinL,List.cons_append]; rfl⟩
 obtain ⟨r',e'⟩:=this
 exact ⟨c,r',by rw [at_ch,e'],hl⟩
theorem ru_head {r:Rul} (h:RuOk r):∃ c l,ch (ruT r) = c :: l∧Lt c:=by
 obtain ⟨c,l,e,hl⟩:=at_head h.1
 unfold ruT
 split
 ·exact ⟨c,l,e,hl⟩
 ·exact ⟨c,_,by rw [ch_app,ch_app,e]; simp only [List.cons_append]; rfl,hl⟩
theorem rs_head {r:Rul} {rs:List Rul} (h:RuOk r):∃ c l,ch (Txt.join (Str.ofString "; ") ((r :: rs).map ruT)) = c :: l∧Lt c:=by
 obtain ⟨c,l,e,hl⟩:=ru_head h
 cases rs with
 | nil => rw [List.map_cons,List.map_nil,RU.join_one]; exact ⟨c,l,e,hl⟩
 | cons q rs => rw [List.map_cons,List.map_cons,join_two]; exact ⟨c,_,by rw [ch_app,ch_app,e]; simp only [List.cons_append]; rfl,hl⟩
theorem rdRs_show {rs:List Rul} (h:∀ r ∈ rs,RuOk r):rdRs (rsT rs) = some rs:=by
 unfold rdRs rsT
 cases rs with
 | nil => simp
 | cons r rs =>
  rw [if_neg (by simp:¬ (r :: rs = [])),if_neg]
  ·rw [joint_split c_se (by decide +kernel) (by simp) (fun p hp => by
    obtain ⟨l,hl,rfl⟩:=List.mem_map.mp hp
    exact ru_free (h l hl)),List.map_map]
   have:((r :: rs).map (rdRu ∘ ruT)) = (r :: rs).map some:=List.map_congr_left fun l hl => rdRu_show (h l hl)
   rw [this,allO_map]
  ·intro z
   obtain ⟨c,l,e,hl⟩:=rs_head (rs:=rs) (h r (by simp))
   rw [z,c_min] at e
   have:=(List.cons.inj e).1
   unfold Lt at hl
   omega
end RQ
namespace RQ
open PySem PySem.Spec PL L2 PyProof.Rows TL RU
open Classical
def rooms:List (Str × Int):=[("sets",3),("copies",3),("adds",3),("reads",2),("cleans",3),("calls",3),("hands",4),("takes",3),("sends",3),("gives",3),("asks",3),("next",3),("same",2)]
def IsRoom (x:Str):Prop:=∃ q ∈ rooms,q.1 = x
def parts (r:Rul):List Atm:=r.1 :: r.2.map liA
def nmsOf:List Trm→List Str
 | [] => []
 | .name x :: r => x :: nmsOf r
 | .num _ :: r => nmsOf r
 | .txt _ :: r => nmsOf r
theorem nmsOf_len:∀ a:List Trm,(nmsOf a).length ≤ a.length
 | [] => Nat.le_refl _
 | .name x :: a => by have:=nmsOf_len a; simp [nmsOf]; omega
 | .num _ :: a => by have:=nmsOf_len a; simp [nmsOf]; omega
 | .txt _ :: a => by have:=nmsOf_len a; simp [nmsOf]; omega
theorem mem_nms {x:Str}:∀ {a:List Trm},x ∈ nmsOf a↔Trm.name x ∈ a
 | [] => by simp [nmsOf]
 | .name y :: a => by simp [nmsOf,mem_nms (a:=a)]
 | .num _ :: a => by simp [nmsOf,mem_nms (a:=a)]
 | .txt _ :: a => by simp [nmsOf,mem_nms (a:=a)]
def isAsk (l:Lit):Bool:=l.2.2 && decide (l.1 ≠ Str.ofString "same")
def knowns (b:List Lit):List Str:=b.flatMap fun l => if isAsk l = true then nmsOf l.2.1 else []
theorem knowns_app (a b:List Lit):knowns (a ++ b) = knowns a ++ knowns b:=by simp [knowns]
theorem mem_knowns {x:Str} {b:List Lit}:x ∈ knowns b↔∃ l ∈ b,isAsk l = true∧Trm.name x ∈ l.2.1:=by
 unfold knowns
 rw [List.mem_flatMap]
 constructor
 ·rintro ⟨l,hl,h⟩
  split at h
  ·rename_i ha; exact ⟨l,hl,ha,mem_nms.mp h⟩
  ·cases h
 ·rintro ⟨l,hl,ha,h⟩
  exact ⟨l,hl,by rw [if_pos ha]; exact mem_nms.mpr h⟩
def Loose (r:Rul):Prop:=∃ p ∈ parts r,∃ x ∈ nmsOf p.2,x ∉ knowns r.2
def agK (f:Str→Nat) (kvs:List (Str × Int)):Prop:=∀ q ∈ kvs,(f q.1:Int) = q.2
def agP (f:Str→Nat) (ps:List Atm):Prop:=∀ p ∈ ps,f p.1 = p.2.length
def allParts (rs:List Rul):List Atm:=rs.flatMap parts
def Many (rs:List Rul):Prop:=¬ ∃ f:Str→Nat,agK f rooms∧agP f (allParts rs)
def IsHead (rs:List Rul) (x:Str):Prop:=∃ r ∈ rs,r.1.1 = x
noncomputable def linkR (rs:List Rul) (r:Rul):List (Str × Str × Bool):=(r.2.filter fun l => decide (IsHead rs l.1)).map fun l => (r.1.1,l.1,!l.2.2)
noncomputable def links (rs:List Rul):List (Str × Str × Bool):=rs.flatMap (linkR rs)
inductive Rch (L:List (Str × Str × Bool)):Str→Str→Prop
 | refl (a:Str):Rch L a a
 | step {a b c:Str} {n:Bool}:Rch L a b→(b,c,n) ∈ L→Rch L a c
theorem Rch.trans {L:List (Str × Str × Bool)} {a b c:Str} (h:Rch L a b) (k:Rch L b c):Rch L a c:=by
 induction k with
 | refl => exact h
 | step _ m ih => exact .step ih m
def Levels (rs:List Rul):Prop:=∃ k ∈ links rs,k.2.2 = true∧Rch (links rs) k.2.1 k.1
noncomputable def fault (rs:List Rul):Option Str :=
 if ∃ r ∈ rs,IsRoom r.1.1 then some (Str.ofString "heads") else if Many rs then some (Str.ofString "many") else if ∃ r ∈ rs,Loose r then some (Str.ofString "loose") else if Levels rs then some (Str.ofString "levels") else none
structure Cons (kvs:List (Str × Int)) (dn:List Atm):Prop where
 nd:(kvs.map (·.1)).Nodup
 nn:∀ q ∈ kvs,0 ≤ q.2
 ag:∀ f:Str→Nat,agK f kvs↔agK f rooms∧agP f dn
theorem rooms_nd:(rooms.map (·.1)).Nodup:=by
 have:(rooms.map (·.1)) = (["sets", "copies", "adds", "reads", "cleans", "calls", "hands", "takes", "sends", "gives", "asks", "next", "same"]:List String).map Str.ofString:=rfl
 rw [this]
 exact List.Pairwise.map (S:=fun (a b:Str) => a ≠ b) Str.ofString (fun a b (h:a ≠ b) e => h (ofString_inj.mp e)) (by decide)
theorem Cons.start:Cons rooms []:=⟨rooms_nd,by simp [rooms],fun f => by simp [agP]⟩
theorem lookup_mem {β : Type} {x:Str} {v : β}:∀ {kvs:List (Str × β)},kvs.lookup x = some v→(x,v) ∈ kvs
 | [],h => by simp at h
 | (k,w) :: r,h => by
  rw [List.lookup_cons] at h
  split at h
  ·rename_i q; cases h
   have:x = k:=eq_of_beq q
   simp [this]
  ·exact List.mem_cons_of_mem _ (lookup_mem h)
theorem lookup_no {β : Type} {x:Str}:∀ {kvs:List (Str × β)},kvs.lookup x = none→x ∉ kvs.map (·.1)
 | [],_ => by simp
 | (k,w) :: r,h => by
  rw [List.lookup_cons] at h
  split at h
  ·cases h
  ·rename_i q
   have hne:x ≠ k:=fun z => by rw [z] at q; simp at q
   have:=lookup_no h
   simp only [List.map_cons,List.mem_cons,not_or]
   exact ⟨hne,this⟩
theorem mem_lookup {β : Type} {x:Str} {v : β}:∀ {kvs:List (Str × β)},(kvs.map (·.1)).Nodup→(x,v) ∈ kvs→kvs.lookup x = some v
 | [],_,h => by simp at h
 | (k,w) :: r,nd,h => by
  rw [List.lookup_cons]
  simp only [List.map_cons,List.nodup_cons] at nd
  rcases List.mem_cons.mp h with e | h
  ·cases e; simp
  ·have hm:x ∈ r.map (·.1):=List.mem_map.mpr ⟨_,h,rfl⟩
   have hne:¬ x = k:=fun z => nd.1 (z ▸ hm)
   have:(x == k) = false:=beq_eq_false_iff_ne.mpr hne
   rw [this]
   exact mem_lookup nd.2 h
theorem Cons.old {kvs:List (Str × Int)} {dn:List Atm} {p:Atm} {v:Int} (c:Cons kvs dn) (h:kvs.lookup p.1 = some v) (e:v = p.2.length):Cons kvs (dn ++ [p]):=by
 refine ⟨c.nd,c.nn,fun f => ⟨fun k => ?_,fun k => (c.ag f).mpr ⟨k.1,fun q hq => k.2 q (by simp [hq])⟩⟩⟩
 obtain ⟨k1,k2⟩:=(c.ag f).mp k
 refine ⟨k1,fun q hq => ?_⟩
 rcases List.mem_append.mp hq with hq | hq
 ·exact k2 q hq
 ·simp at hq; subst hq
  have:=k _ (lookup_mem h)
  simp only at this
  omega
theorem Cons.new {kvs:List (Str × Int)} {dn:List Atm} {p:Atm} (c:Cons kvs dn) (h:kvs.lookup p.1 = none):Cons (kvs ++ [(p.1,(p.2.length:Int))]) (dn ++ [p]):=by
 refine ⟨?_,fun q hq => ?_,fun f => ⟨fun k => ?_,fun k q hq => ?_⟩⟩
 ·rw [List.map_append,List.nodup_append]
  refine ⟨c.nd,by simp,fun a ha b hb => ?_⟩
  simp at hb
  subst hb
  exact fun z => lookup_no h (z ▸ ha)
 ·rcases List.mem_append.mp hq with hq | hq
  ·exact c.nn q hq
  ·simp at hq; subst hq; exact Int.natCast_nonneg _
 ·obtain ⟨k1,k2⟩:=(c.ag f).mp fun q hq => k q (by simp [hq])
  refine ⟨k1,fun q hq => ?_⟩
  rcases List.mem_append.mp hq with hq | hq
  ·exact k2 q hq
  ·simp at hq; subst hq
   have:=k (q.1,(q.2.length:Int)) (by simp)
   simp only at this
   omega
 ·rcases List.mem_append.mp hq with hq | hq
  ·exact (c.ag f).mpr ⟨k.1,fun r hr => k.2 r (by simp [hr])⟩ q hq
  ·simp at hq; subst hq
   have:=k.2 p (by simp)
   simp only
   omega
theorem Cons.no {kvs:List (Str × Int)} {dn:List Atm} {p:Atm} {v:Int} {rs:List Rul} (c:Cons kvs dn) (h:kvs.lookup p.1 = some v) (e:v ≠ p.2.length) (hs:∀ q,q ∈ dn ∨ q = p→q ∈ allParts rs):Many rs:=by
 rintro ⟨f,f1,f2⟩
 have k:=(c.ag f).mpr ⟨f1,fun q hq => f2 q (hs q (.inl hq))⟩
 have h1:=k _ (lookup_mem h)
 have h2:=f2 p (hs p (.inr rfl))
 simp only at h1
 omega
theorem Cons.fin {kvs:List (Str × Int)} {rs:List Rul} (c:Cons kvs (allParts rs)):¬ Many rs:=by
 intro h
 apply h
 refine ⟨fun x => ((kvs.lookup x).getD 0).toNat,(c.ag _).mp fun q hq => ?_⟩
 obtain ⟨x,v⟩:=q
 have:=mem_lookup c.nd hq
 have hn:=c.nn _ hq
 simp only [this,Option.getD_some] at hn ⊢
 omega
end RQ
namespace PL
open PySem PySem.Spec PyProof.Rows L2
theorem accDM_wp {α : Type} {P:List (Key × PV)→Sto→Prop} {R:Str→PV→Sto→Prop} {t:Wk} {g:GM} {st:List (Key × PV)→En→Sto→Out (List (Key × PV))} (f : α→PV) {xs:List α} (Inv:List α→List (Key × PV)→Sto→Prop) {acc:List (Key × PV)} {τ : En} {S:Sto} (h0:Inv [] acc S)
  (hs:∀ dn x rs acc S (J:List (Key × PV)→Sto→Prop),xs = dn ++ x :: rs→Inv dn acc S→(∀ a S',Inv (dn ++ [x]) a S'→J a S')→t.ok S∧∃ τ1,g (f x) τ = some τ1∧wp (st acc τ1 S) J R)
  (he:∀ acc S,Inv xs acc S→t.ok S∧P acc S):wp (accD t g st acc (xs.map f) τ S) P R:=by
 have key:∀ (rs dn:List α) (acc:List (Key × PV)) (S:Sto),xs = dn ++ rs→Inv dn acc S→wp (accD t g st acc (rs.map f) τ S) P R:=by
  intro rs
  induction rs with
  | nil =>
   intro dn acc S e h
   have e':xs = dn:=by simpa using e
   subst e'
   obtain ⟨h1,h2⟩:=he acc S h
   simp only [List.map_nil,accD,if_pos h1,wp_ok]
   exact h2
  | cons p rs ih =>
   intro dn acc S e h
   obtain ⟨h1,τ1,h2,h3⟩:=hs dn p rs acc S (fun a S' => Inv (dn ++ [p]) a S') e h fun _ _ k => k
   simp only [List.map_cons,accD,if_pos h1,h2]
   rw [wp_bnd]
   exact wp_mono h3 (fun a S' hh => ih (dn ++ [p]) a S' (by rw [e]; simp) hh) fun _ _ _ k => k
 exact key xs [] acc S rfl h0
end PL
namespace K59
open PySem PySem.Spec PyProof.Rows L2 PL RU RQ
open Classical
def SqAt (S:Sto) (p:PV) (xs:List PV):Prop:=p = .tup xs ∨ p = .fls xs ∨ ∃ l,p = .loc l∧S[l]? = some (.lst xs)
theorem SqAt.keep {M:List Nat} {S S':Sto} {p:PV} {xs:List PV} (h:SqAt S p xs) (k:Keep M S S') (hM:∀ x ∈ M,S.length ≤ x):SqAt S' p xs:=by
 rcases h with h | h | ⟨l,h1,h2⟩
 ·exact .inl h
 ·exact .inr (.inl h)
 ·exact .inr (.inr ⟨l,h1,k.get h2 fun z => by have:=hM _ z; have:=lt_of_get h2; omega⟩)
theorem SqAt.itr {S:Sto} {p:PV} {xs:List PV} (h:SqAt S p xs):∃ g,∀ M S',Keep M S S'→(∀ x ∈ M,S.length ≤ x)→itrP p S' = some ⟨xs,g⟩∧Wk.ok ⟨xs,g⟩ S':=by
 rcases h with rfl | rfl | ⟨l,rfl,h2⟩
 ·exact ⟨[],fun M S' k hM => by simp⟩
 ·exact ⟨[],fun M S' k hM => by simp⟩
 ·refine ⟨[(l,.lst xs)],fun M S' k hM => ?_⟩
  have h3:=k.get h2 fun z => by have:=hM _ z; have:=lt_of_get h2; omega
  simp [h3]
theorem SqAt.itr0 {S:Sto} {p:PV} {xs:List PV} (h:SqAt S p xs):∃ g,itrP p S = some ⟨xs,g⟩∧∀ S',Keep [] S S'→Wk.ok ⟨xs,g⟩ S':=by
 obtain ⟨g,hg⟩:=h.itr
 exact ⟨g,(hg [] S .refl (by simp)).1,fun S' k => (hg [] S' k (by simp)).2⟩
theorem boolsP_map {α : Type} (p : α→Bool):∀ l:List α,boolsP (l.map fun x => PV.bl (p x)) = some (l.map p)
 | [] => rfl
 | a :: l => by simp [boolsP,boolsP_map p l]
theorem is_asked_wp {l:Lit} {S:Sto} {P:PV→Sto→Prop} {R:Str→PV→Sto→Prop} (h:P (.bl (isAsk l)) S):wp (m_q29 [litP l] S) P R:=by
 unfold m_q29
 rw [callS_wp]
 obtain ⟨x,ts,b⟩:=l
 cases b with
 | false => simp [startE,litP,-zq0,-zq1,-zq2,-zq3,-zq4,-zq5,-zq6]; exact h
 | true =>
  simp [startE,litP,-zq0,-zq1,-zq2,-zq3,-zq4,-zq5,-zq6]
  have e:isAsk (x,ts,true) = !decide (x = Str.ofString "same"):=by
   unfold isAsk
   by_cases z:x = Str.ofString "same" <;> simp [z]
  rw [e] at h
  exact h
theorem names_of_wp {ts:List Trm} {S:Sto} {P:PV→Sto→Prop} {R:Str→PV→Sto→Prop} (hl:ts.length ≤ 100000) (h:∀ n S',S'[n]? = some (.lst ((nmsOf ts).map PV.str))→Keep [] S S'→S.length ≤ n→P (.loc n) S'):wp (m_q26 [.tup (ts.map Trm.pv)] S) P R:=by
 unfold m_q26
 rw [callS_wp]
 simp [startE,-zq0,-zq1,-zq2,-zq3,-zq4,-zq5,-zq6]
 have fl:∀ ts:List Trm,(ts.flatMap fun t => (nmsOf [t]).map PV.str) = (nmsOf ts).map PV.str:=by
  intro ts
  induction ts with
  | nil => rfl
  | cons t ts ih => rw [List.flatMap_cons,ih]; cases t <;> simp [nmsOf]
 refine accF_wp Trm.pv (fun t => (nmsOf [t]).map PV.str) (fun S' k => by simp) ?_ ?_ ?_
 ·rw [fl]
  have:=nmsOf_len ts
  simp; omega
 ·intro t ht acc S2 J hl2 k2 hJ
  have hJ:=hJ S2 k2
  cases t with
  | name x =>
   refine ⟨_,rfl,?_⟩
   simp [nmsOf] at hl2 hJ
   simp [Trm.pv,wipeE,stepE_wp,-zq0,-zq1,-zq2,-zq3,-zq4,-zq5,-zq6]
   exact ⟨by omega,hJ⟩
  | num i =>
   refine ⟨_,rfl,?_⟩
   simp [nmsOf] at hl2 hJ
   simp [Trm.pv,wipeE,stepE_wp,-zq0,-zq1,-zq2,-zq3,-zq4,-zq5,-zq6]
   exact hJ
  | txt x =>
   refine ⟨_,rfl,?_⟩
   simp [nmsOf] at hl2 hJ
   simp [Trm.pv,wipeE,stepE_wp,-zq0,-zq1,-zq2,-zq3,-zq4,-zq5,-zq6]
   exact hJ
 ·intro S2 k2
  refine new_wp ?_
  intro n S3 e3 k3 g3
  have lk3:=k3.1
  simp [-zq0,-zq1,-zq2,-zq3,-zq4,-zq5,-zq6]
  refine h n S3 ?_ (k2.trans k3) (by have:=k2.1; omega)
  rw [e3,List.nil_append,fl]
def setKV (ks:List Str):List (Key × PV):=ks.map fun x => (.inr x,.bl true)
theorem setKV_val {ks:List Str} {x:Str}:(valP (setKV ks) (.inr x)).isSome = decide (x ∈ ks):=by
 unfold valP setKV
 rw [Option.isSome_map,Bool.eq_iff_iff,List.find?_isSome,decide_eq_true_iff]
 constructor
 ·rintro ⟨q,hq,e⟩
  obtain ⟨y,hy,rfl⟩:=List.mem_map.mp hq
  have:=of_decide_eq_true e
  simp at this
  exact this ▸ hy
 ·intro hx
  exact ⟨(.inr x,.bl true),List.mem_map.mpr ⟨x,hx,rfl⟩,by simp⟩
theorem setKV_put {ks:List Str} {x:Str}:putP (setKV ks) (.inr x) (.bl true) = setKV (if x ∈ ks then ks else ks ++ [x]):=by
 split
 ·rename_i hx
  unfold putP
  rw [if_pos]
  ·unfold setKV
   rw [List.map_map]
   refine List.map_congr_left fun y hy => ?_
   show (if _ then _ else _) = _
   split <;> rfl
  ·rw [List.any_eq_true]
   exact ⟨(.inr x,.bl true),List.mem_map.mpr ⟨x,hx,rfl⟩,by simp⟩
 ·rename_i hx
  rw [putP_none]
  ·simp [setKV]
  ·have:=setKV_val (ks:=ks) (x:=x)
   rw [decide_eq_false hx] at this
   exact Option.isNone_iff_eq_none.mp (by simpa using this)
theorem setKV_in {S:Sto} {d:Nat} {ks:List Str} {x:Str} (h:S[d]? = some (.dct (setKV ks))):inB (.str x) (.loc d) S = some (decide (x ∈ ks)):=by
 unfold inB
 simp only [h,keyP_str,setKV_val]
theorem heads_of_wp {rs:List Rul} {p:PV} {S:Sto} {P:PV→Sto→Prop} {R:Str→PV→Sto→Prop} (hp:SqAt S p (rs.map rulP)) (hl:rs.length ≤ 100000) (h:∀ n ks S',S'[n]? = some (.dct (setKV ks))→(∀ x,x ∈ ks↔IsHead rs x)→Keep [] S S'→S.length ≤ n→P (.loc n) S'):wp (m_q27 [p] S) P R:=by
 unfold m_q27
 rw [callS_wp]
 obtain ⟨g,hg,hok⟩:=hp.itr0
 simp [startE,hg,-zq0,-zq1,-zq2,-zq3,-zq4,-zq5,-zq6]
 refine accDM_wp rulP (fun dn acc S' => (∃ ks,acc = setKV ks∧ks.length ≤ dn.length∧∀ x,x ∈ ks↔IsHead dn x)∧Keep [] S S') ⟨⟨[],rfl,Nat.le_refl _,by simp [IsHead]⟩,.refl⟩ ?_ ?_
 ·rintro dn r rest acc S1 J e ⟨⟨ks,rfl,hk,hm⟩,k1⟩ hJ
  have hdn:dn.length < 100000:=by
   have:=congrArg List.length e
   simp at this; omega
  refine ⟨hok S1 k1,_,rfl,?_⟩
  simp [wipeE,stepD_wp,atmP,setKV_put,-zq0,-zq1,-zq2,-zq3,-zq4,-zq5,-zq6]
  refine ⟨by simp [setKV]; omega,hJ _ _ ⟨⟨_,rfl,?_,fun x => ?_⟩,k1⟩⟩
  ·split <;> simp <;> omega
  ·have hm:=hm
   unfold IsHead at hm ⊢
   split
   ·rename_i hx
    rw [hm]
    constructor
    ·rintro ⟨q,hq,e⟩; exact ⟨q,by simp [hq],e⟩
    ·rintro ⟨q,hq,rfl⟩
     rcases List.mem_append.mp hq with hq | hq
     ·exact ⟨q,hq,rfl⟩
     ·simp at hq; subst hq; exact (hm _).mp hx
   ·rw [List.mem_append,hm]
    constructor
    ·rintro (⟨q,hq,e⟩ | z)
     ·exact ⟨q,by simp [hq],e⟩
     ·simp at z; exact ⟨r,by simp,z.symm⟩
    ·rintro ⟨q,hq,rfl⟩
     rcases List.mem_append.mp hq with hq | hq
     ·exact .inl ⟨q,hq,rfl⟩
     ·simp at hq; subst hq; exact .inr (by simp)
 ·rintro acc S1 ⟨⟨ks,rfl,hk,hm⟩,k1⟩
  refine ⟨hok S1 k1,newDK_wp ?_⟩
  intro n S2 e2 k2 g2
  have lk2:=k2.1
  simp [-zq0,-zq1,-zq2,-zq3,-zq4,-zq5,-zq6]
  exact h n ks S2 e2 hm (k1.trans k2) (by have:=k1.1; omega)
theorem rdP_val {kvs:List (Str × Int)} {x:Str}:valP (rdP kvs) (.inr x) = (kvs.lookup x).map PV.int:=by
 induction kvs with
 | nil => rfl
 | cons q kvs ih =>
  obtain ⟨k,v⟩:=q
  rw [List.lookup_cons]
  unfold valP rdP at ih ⊢
  rw [List.map_cons,List.find?_cons]
  by_cases hx:k = x
  ·subst hx; simp
  ·have h1:(x == k) = false:=beq_eq_false_iff_ne.mpr fun z => hx z.symm
   simp only [h1]
   have h2:decide ((Sum.inr k:Key) = .inr x) = false:=decide_eq_false fun z => hx (by injection z)
   simp only [h2]
   exact ih
theorem rdP_put {kvs:List (Str × Int)} {x:Str} {v:Int} (h:kvs.lookup x = none):putP (rdP kvs) (.inr x) (.int v) = rdP (kvs ++ [(x,v)]):=by
 rw [putP_none (by rw [rdP_val,h]; rfl)]
 simp [rdP]
theorem rooms_eq:rs_ROOMS = rooms:=rfl
theorem is_many_wp {rs:List Rul} {p:PV} {S:Sto} {P:PV→Sto→Prop} {R:Str→PV→Sto→Prop} (hp:SqAt S p (rs.map rulP)) (hl:(allParts rs).length ≤ 100000) (h:∀ S',Keep [] S S'→P (.bl (decide (Many rs))) S'):wp (m_q30 [p] S) P R:=by
 unfold m_q30
 rw [callS_wp]
 have yes:Many rs→∀ S',Keep [] S S'→P (.bl true) S':=fun m S' k => by have:=h S' k; rwa [decide_eq_true m] at this
 simp [startE,rdCopy_ap,rooms_eq,-zq0,-zq1,-zq2,-zq3,-zq4,-zq5,-zq6]
 have k0:Keep [] S (S ++ [.dct (rdP rooms)]):=.app
 have e0:(S ++ [.dct (rdP rooms)])[S.length]? = some (.dct (rdP rooms)):=app_new
 generalize S ++ [.dct (rdP rooms)] = S0 at k0 e0 ⊢
 obtain ⟨g,hg⟩:=hp.itr
 have hg0:=(hg [] S0 k0 (by simp)).1
 have hok:∀ S',Keep [S.length] S0 S'→Wk.ok ⟨rs.map rulP,g⟩ S':=fun S' k => (hg [S.length] S' ((k0.mono (by simp)).trans k) (by simp)).2
 simp [hg0,-zq0,-zq1,-zq2,-zq3,-zq4,-zq5,-zq6]
 refine forM_wp rulP (fun dn τ S' => (∃ x2 x3 x4 x5 x6,τ = [some p,some (.loc S.length),x2,x3,x4,x5,x6])∧(∃ kvs,S'[S.length]? = some (.dct (rdP kvs))∧Cons kvs (allParts dn)∧kvs.length ≤ 13 + (allParts dn).length)∧Keep [S.length] S0 S') ⟨⟨_,_,_,_,_,rfl⟩,⟨rooms,e0,.start,by simp [rooms]⟩,.refl⟩ ?_ ?_
 ·rintro dn r rest τ S1 J hrs ⟨⟨x2,x3,x4,x5,x6,rfl⟩,⟨kvs,e1,c1,l1⟩,k1⟩ hJ
  have hr:r ∈ rs:=by rw [hrs]; simp
  have hal:(allParts dn).length + (parts r).length ≤ (allParts rs).length:=by rw [hrs]; simp [allParts]
  have hpr:(parts r).length = r.2.length + 1:=by simp [parts]
  refine ⟨hok S1 k1,_,rfl,?_⟩
  have hpa:(PV.tup [PV.str r.1.1,PV.tup (List.map Trm.pv r.1.2)] :: List.map litP r.2) = ((r.1,none) :: r.2.map fun l => (liA l,some l.2.2):List (Atm × Option Bool)).map fun x => .tup ([.str x.1.1,.tup (x.1.2.map Trm.pv)] ++ x.2.toList.map PV.bl):=by
   rw [List.map_cons,List.map_map]
   congr 1
  have hfst:(((r.1,none) :: r.2.map fun l => (liA l,some l.2.2):List (Atm × Option Bool)).map (·.1)) = parts r:=by
   rw [List.map_cons,List.map_map]
   rfl
  simp [atmP,-zq0,-zq1,-zq2,-zq3,-zq4,-zq5,-zq6]
  refine ⟨by omega,?_⟩
  rw [hpa]
  generalize hps:((r.1,none) :: r.2.map fun l => (liA l,some l.2.2):List (Atm × Option Bool)) = ps at hfst ⊢
  refine forSM_wp (fun x:Atm × Option Bool => [.str x.1.1,.tup (x.1.2.map Trm.pv)] ++ x.2.toList.map PV.bl) (fun dq τ S' => (∃ x4 x5 x6,τ = [some p,some (.loc S.length),some (.tup [.str r.1.1,.tup (r.1.2.map Trm.pv)]),some (.tup (r.2.map litP)),x4,x5,x6])∧(∃ kvs,S'[S.length]? = some (.dct (rdP kvs))∧Cons kvs (allParts dn ++ dq.map (·.1))∧kvs.length ≤ 13 + (allParts dn).length + dq.length)∧Keep [S.length] S0 S') ⟨⟨_,_,_,rfl⟩,⟨kvs,e1,by simpa using c1,by simpa using l1⟩,k1⟩ ?_ ?_
  ·rintro dq x rest2 τ S2 J2 hps2 ⟨⟨x4,x5,x6,rfl⟩,⟨kvs2,e2,c2,l2⟩,k2⟩ hJ2
   obtain ⟨a,o⟩:=x
   have ho:(o.toList.map PV.bl).length ≤ 1:=by cases o <;> simp
   refine ⟨by simp,by simp,by simp; cases o <;> simp,_,fun l => by simp; rfl,?_⟩
   intro l S3 e3 k3 g3
   have e23:=k3.get e2 (by simp)
   have hpl:=congrArg List.length hps2
   have hpl2:=congrArg List.length hfst
   simp only [List.length_map,List.length_append,List.length_cons] at hpl hpl2
   have k03:Keep [S.length] S0 S3:=k2.trans (k3.mono (by simp))
   cases hlk:kvs2.lookup a.1 with
   | some v =>
    have hv:valP (rdP kvs2) (.inr a.1) = some (.int v):=by rw [rdP_val,hlk]; rfl
    simp [e23,hv,-zq0,-zq1,-zq2,-zq3,-zq4,-zq5,-zq6]
    refine ⟨by simp [rdP]; omega,fun he => ?_,fun hne => ?_⟩
    ·refine hJ2 _ _ ⟨⟨_,_,_,rfl⟩,⟨kvs2,e23,?_,by simp; omega⟩,k03⟩
     have:=c2.old (p:=a) hlk (by simpa using he)
     simpa using this
    ·refine yes ?_ S3 ((k0.mono (by simp)).trans k03 |>.mono (by intro x hx hlt; simp at hx; omega))
     refine c2.no (p:=a) hlk (by simpa using hne) fun q hq => ?_
     have hm:∀ q ∈ allParts dn ++ parts r,q ∈ allParts rs:=fun q hq => by
      rw [hrs]; simp only [allParts,List.flatMap_append,List.flatMap_cons,List.mem_append] at hq ⊢
      rcases hq with hq | hq
      ·exact .inl hq
      ·exact .inr (.inl hq)
     refine hm q ?_
     rcases hq with hq | rfl
     ·rcases List.mem_append.mp hq with hq | hq
      ·exact List.mem_append_left _ hq
      ·refine List.mem_append_right _ ?_
       rw [← hfst,hps2,List.map_append]
       exact List.mem_append_left _ hq
     ·refine List.mem_append_right _ ?_
      rw [← hfst,hps2,List.map_append]
      simp
   | none =>
    have hv:valP (rdP kvs2) (.inr a.1) = none:=by rw [rdP_val,hlk]; rfl
    simp [e23,hv,rdP_put hlk,-zq0,-zq1,-zq2,-zq3,-zq4,-zq5,-zq6]
    refine ⟨by simp [rdP]; omega,hJ2 _ _ ⟨⟨_,_,_,rfl⟩,⟨_,set_get e23,?_,by simp; omega⟩,k03.trans (.set (by simp))⟩⟩
    have:=c2.new (p:=a) hlk
    simpa using this
  ·rintro τ S2 ⟨⟨x4,x5,x6,rfl⟩,⟨kvs2,e2,c2,l2⟩,k2⟩
   refine ⟨by simp,hJ _ _ ⟨⟨_,_,_,_,_,rfl⟩,⟨kvs2,e2,?_,?_⟩,k2⟩⟩
   ·have:allParts (dn ++ [r]) = allParts dn ++ ps.map (·.1):=by rw [hfst]; simp [allParts]
    rw [this]; exact c2
   ·have h1:=congrArg List.length hfst
    simp [allParts] at h1 l2 ⊢
    omega
 ·rintro τ S1 ⟨⟨x2,x3,x4,x5,x6,rfl⟩,⟨kvs,e1,c1,l1⟩,k1⟩
  refine ⟨hok S1 k1,?_⟩
  simp [-zq0,-zq1,-zq2,-zq3,-zq4,-zq5,-zq6]
  have:=h S1 (((k0.mono (by simp)).trans k1).mono (by intro x hx hlt; simp at hx; omega))
  rwa [decide_eq_false c1.fin] at this
theorem is_loose_wp {r:Rul} {S:Sto} {P:PV→Sto→Prop} {R:Str→PV→Sto→Prop} (hl:∀ p ∈ parts r,p.2.length ≤ 10000) (hb:r.2.length ≤ 1600) (h:∀ S',Keep [] S S'→P (.bl (decide (Loose r))) S'):wp (m_q24 [rulP r] S) P R:=by
 unfold m_q24
 rw [callS_wp]
 have hlit:∀ l ∈ r.2,l.2.1.length ≤ 10000:=fun l hm => hl (liA l) (List.mem_cons_of_mem _ (List.mem_map_of_mem hm))
 have hh:r.1.2.length ≤ 10000:=hl r.1 (by simp [parts])
 simp [startE,rulP,-zq0,-zq1,-zq2,-zq3,-zq4,-zq5,-zq6]
 refine accDM_wp litP (fun dn acc S' => (∃ ks,acc = setKV ks∧ks.length ≤ dn.length * 10000∧∀ x,x ∈ ks↔x ∈ knowns dn)∧Keep [] S S') ⟨⟨[],rfl,by simp,by simp [knowns]⟩,.refl⟩ ?_ ?_
 ·rintro dn l rest acc S1 J e ⟨⟨ks,rfl,hk,hm⟩,k1⟩ hJ
  have hlm:l ∈ r.2:=by rw [e]; simp
  have hll:=hlit l hlm
  have hdn:dn.length < 1600:=by
   have:=congrArg List.length e
   simp at this; omega
  have hkn:∀ x,x ∈ knowns (dn ++ [l])↔x ∈ ks ∨ (isAsk l = true∧x ∈ nmsOf l.2.1):=fun x => by
   rw [knowns_app,List.mem_append,← hm]
   simp [knowns]
  refine ⟨by simp,_,rfl,?_⟩
  simp [wipeE,stepDI_wp,-zq0,-zq1,-zq2,-zq3,-zq4,-zq5,-zq6]
  refine is_asked_wp ?_
  cases ha:isAsk l with
  | false =>
   simp [-zq0,-zq1,-zq2,-zq3,-zq4,-zq5,-zq6]
   refine hJ _ _ ⟨⟨ks,rfl,by simp; omega,fun x => ?_⟩,k1⟩
   rw [hkn,ha]; simp
  | true =>
   simp [litP,-zq0,-zq1,-zq2,-zq3,-zq4,-zq5,-zq6]
   refine names_of_wp (by omega) ?_
   intro n S2 e2 k2 g2
   have lk2:=k2.1
   simp [e2,-zq0,-zq1,-zq2,-zq3,-zq4,-zq5,-zq6]
   have hnl:=nmsOf_len l.2.1
   refine accDM_wp PV.str (fun dq acc S' => (∃ ks',acc = setKV ks'∧ks'.length ≤ ks.length + dq.length∧∀ x,x ∈ ks'↔x ∈ ks ∨ x ∈ dq)∧Keep [] S2 S') ⟨⟨ks,rfl,by simp,by simp⟩,.refl⟩ ?_ ?_
   ·rintro dq x rest2 acc S3 J2 e3 ⟨⟨ks2,rfl,hk2,hm2⟩,k3⟩ hJ2
    have hdq:dq.length ≤ 10000:=by
     have:=congrArg List.length e3
     simp at this; omega
    refine ⟨by simp [k3.get e2 (by simp)],_,rfl,?_⟩
    simp [wipeE,stepKV_wp,setKV_put,-zq0,-zq1,-zq2,-zq3,-zq4,-zq5,-zq6]
    refine ⟨by simp [setKV]; omega,hJ2 _ _ ⟨⟨_,rfl,?_,fun y => ?_⟩,k3⟩⟩
    ·split <;> simp <;> omega
    ·split
     ·rename_i hx
      rw [hm2,List.mem_append]
      constructor
      ·rintro (z | z)
       ·exact .inl z
       ·exact .inr (.inl z)
      ·rintro (z | z | z)
       ·exact .inl z
       ·exact .inr z
       ·simp at z; subst z; exact (hm2 _).mp hx
     ·rw [List.mem_append,hm2,List.mem_append]
      exact or_assoc
   ·rintro acc S3 ⟨⟨ks2,rfl,hk2,hm2⟩,k3⟩
    refine ⟨by simp [k3.get e2 (by simp)],hJ _ _ ⟨⟨ks2,rfl,by simp; omega,fun x => ?_⟩,k1.trans (k2.trans k3)⟩⟩
    rw [hkn,hm2,ha]; simp
 rintro acc S1 ⟨⟨ks,rfl,hk,hm⟩,k1⟩
 refine ⟨by simp,newDK_wp ?_⟩
 intro d S2 e2 k2 g2
 have lk2:=k2.1
 have hpa:(atmP r.1 :: List.map litP r.2) = ((r.1,none) :: r.2.map fun l => (liA l,some l.2.2):List (Atm × Option Bool)).map fun x => .tup ([.str x.1.1,.tup (x.1.2.map Trm.pv)] ++ x.2.toList.map PV.bl):=by
  rw [List.map_cons,List.map_map]
  congr 1
 have hfst:(((r.1,none) :: r.2.map fun l => (liA l,some l.2.2):List (Atm × Option Bool)).map (·.1)) = parts r:=by
  rw [List.map_cons,List.map_map]
  rfl
 simp [-zq0,-zq1,-zq2,-zq3,-zq4,-zq5,-zq6]
 refine ⟨by omega,?_⟩
 rw [hpa]
 generalize hps:((r.1,none) :: r.2.map fun l => (liA l,some l.2.2):List (Atm × Option Bool)) = ps at hfst ⊢
 have hpl:ps.length ≤ 1601:=by
  have:=congrArg List.length hfst
  simp [parts] at this; omega
 have hpm:∀ x ∈ ps,x.1 ∈ parts r:=fun x hx => by rw [← hfst]; exact List.mem_map_of_mem hx
 have hfl:(ps.flatMap fun x => (nmsOf x.1.2).map fun y => PV.bl (decide (y ∈ ks))).length ≤ 16777216:=by
  have:=len_flatMap_le (xs:=ps) (f:=fun x => (nmsOf x.1.2).map fun y => PV.bl (decide (y ∈ ks))) (c:=10000) fun x hx => by
   have h1:=hl x.1 (hpm x hx)
   have h2:=nmsOf_len x.1.2
   simp; omega
  omega
 refine accF_wp (fun x:Atm × Option Bool => PV.tup ([.str x.1.1,.tup (x.1.2.map Trm.pv)] ++ x.2.toList.map PV.bl)) (fun x => (nmsOf x.1.2).map fun y => PV.bl (decide (y ∈ ks))) (xs:=ps) ?_ (by rw [List.length_nil,Nat.zero_add]; exact hfl) ?_ ?_
 ·intro S' k; simp
 ·intro x hx acc S3 J hl3 k3 hJ
  refine ⟨_,rfl,?_⟩
  have hxl:=hl x.1 (hpm x hx)
  simp [wipeE,stepI_wp,-zq0,-zq1,-zq2,-zq3,-zq4,-zq5,-zq6]
  refine names_of_wp (by omega) ?_
  intro n S4 e4 k4 g4
  have lk4:=k4.1
  simp [e4,-zq0,-zq1,-zq2,-zq3,-zq4,-zq5,-zq6]
  have e24:=(k3.trans k4).get e2 (by simp)
  refine acc_map PV.str (fun y => PV.bl (decide (y ∈ ks))) (by simp [e4]) (by simpa using hl3) (fun y hy acc J2 hl4 hJ2 => ⟨_,rfl,?_⟩) ?_
  ·simp [wipeE,stepE_wp,setKV_in e24,hl4,-zq0,-zq1,-zq2,-zq3,-zq4,-zq5,-zq6]
   exact hJ2
  ·exact hJ S4 (k3.trans k4)
 ·intro S3 k3
  refine new_wp ?_
  intro n S4 e4 k4 g4
  have lk4:=k4.1
  rw [List.nil_append] at e4
  have hb:∀ qs:List (Atm × Option Bool),boolsP (qs.flatMap fun x => (nmsOf x.1.2).map fun y => PV.bl (decide (y ∈ ks))) = some (qs.flatMap fun x => (nmsOf x.1.2).map fun y => decide (y ∈ ks)):=by
   intro qs
   have:(qs.flatMap fun x => (nmsOf x.1.2).map fun y => PV.bl (decide (y ∈ ks))) = (qs.flatMap fun x => (nmsOf x.1.2).map fun y => decide (y ∈ ks)).map PV.bl:=by
    rw [List.map_flatMap]
    congr 1
    funext x
    rw [List.map_map]; rfl
   rw [this]
   have:=boolsP_map id (qs.flatMap fun x => (nmsOf x.1.2).map fun y => decide (y ∈ ks))
   simpa using this
  simp [e4,hb ps,-zq0,-zq1,-zq2,-zq3,-zq4,-zq5,-zq6]
  have fin:=h S4 (k1.trans (k2.trans (k3.trans k4)))
  have hx:(!(ps.flatMap fun x => (nmsOf x.1.2).map fun y => decide (y ∈ ks)).all id) = decide (Loose r):=by
   rw [Bool.eq_iff_iff,Bool.not_eq_true',← Bool.not_eq_true,List.all_eq_true,decide_eq_true_iff]
   constructor
   ·intro z
    refine Classical.byContradiction fun q => z fun b hb => ?_
    obtain ⟨x,hx,hb⟩:=List.mem_flatMap.mp hb
    obtain ⟨y,hy,rfl⟩:=List.mem_map.mp hb
    refine Classical.byContradiction fun c => q ⟨x.1,hpm x hx,y,hy,fun w => c ?_⟩
    exact decide_eq_true ((hm y).mpr w)
   ·rintro ⟨p,hp,y,hy,hn⟩ z
    rw [← hfst] at hp
    obtain ⟨x,hx,rfl⟩:=List.mem_map.mp hp
    have:=z _ (List.mem_flatMap.mpr ⟨x,hx,List.mem_map.mpr ⟨y,hy,rfl⟩⟩)
    exact hn ((hm y).mp (of_decide_eq_true this))
  first
   | (rw [← hx] at fin; simpa using fin)
   | skip
end K59
namespace PL
open PySem PySem.Spec PyProof.Rows L2
theorem seq_split {s t:SM} {τ : En} {S:Sto} {N:En→Sto→Prop} {T:PV→Sto→Prop} {R:Str→PV→En→Sto→Prop} (M:En→Sto→Prop) (h1:wpS (s τ S) M T R) (h2:∀ τ' S',M τ' S'→wpS (t τ' S') N T R):wpS (seqS s t τ S) N T R:=by
 rw [e_seqS,e_seqO]
 exact wpS_mono h1 h2 (fun _ _ h => h) (fun _ _ _ _ h => h)
end PL
namespace K59
open PySem PySem.Spec PyProof.Rows L2 PL RU RQ
open Classical
theorem cut_len (x:Str) (lo hi:Option Int):(cutS x lo hi).length ≤ x.length:=by
 rw [← ch_len,← ch_len,ch_cut,List.length_take,List.length_drop]
 omega
theorem is_nameG_wp {x:Str} {S:Sto} {P:PV→Sto→Prop} {R:Str→PV→Sto→Prop} (hl:x.length ≤ 100000) (h:∀ S',Keep [] S S'→P (.bl (decide (Nm x))) S'):wp (m_q32 [.str x] S) P R:=by
 unfold m_q32
 rw [callS_wp]
 have l16:x.length ≤ 16777216:=by omega
 have no:¬ Nm x→P (.bl false) S:=fun n => by have:=h S .refl; rwa [decide_eq_false n] at this
 simp [startE,l16,-zq0,-zq1,-zq2,-zq3,-zq4,-zq5,-zq6]
 refine ⟨fun h1 => ⟨fun h8 => ?_,fun h8 => no fun n => absurd n.q (by omega)⟩,fun h1 => no fun n => absurd n.p (by omega)⟩
 refine acc_map (fun c => PV.str ⟨#[c]⟩) (fun c => PV.bl (decide (Lt c))) (by simp) (by have:=ch_len x; unfold ch at this; simp only [List.length_nil]; omega) (fun c hc acc J hl hJ => ⟨_,rfl,?_⟩) ?_
 ·simp [wipeE,stepE_wp,inB_char,hl,-zq0,-zq1,-zq2,-zq3,-zq4,-zq5,-zq6]
  exact hJ
 ·refine new_wp ?_
  intro n S1 e1 k1 g1
  have lk1:=k1.1
  rw [List.nil_append] at e1
  have hb:((x.cps.toList.map fun c => decide (Lt c)).all id) = decide (Nm x):=by
   rw [Bool.eq_iff_iff,List.all_eq_true,decide_eq_true_iff]
   constructor
   ·intro q
    exact ⟨fun c hc => of_decide_eq_true (q _ (List.mem_map.mpr ⟨c,hc,rfl⟩)),by omega,by omega⟩
   ·rintro q b hb
    obtain ⟨c,hc,rfl⟩:=List.mem_map.mp hb
    exact decide_eq_true (q.l c hc)
  have e2:=boolsP_map (fun c => decide (Lt c)) x.cps.toList
  simp [e1,e2,-zq0,-zq1,-zq2,-zq3,-zq4,-zq5,-zq6]
  have fin:=h S1 k1
  rw [← hb] at fin
  simpa using fin
def Dg (c:Nat):Prop:=48 ≤ c∧c ≤ 57
instance (c:Nat):Decidable (Dg c):=inferInstanceAs (Decidable (_∧_))
theorem fig_in {S:Sto} {c:Nat}:inB (.str ⟨#[c]⟩) (.str (Str.ofString "0123456789")) S = some (decide (Dg c)):=by
 have e:(Str.ofString "0123456789").cps.toList = [48,49,50,51,52,53,54,55,56,57]:=by decide +kernel
 show some (decide (c ∈ (Str.ofString "0123456789").cps.toList)) = _
 rw [e]
 congr 1
 refine decide_eq_decide.mpr ?_
 simp only [List.mem_cons,List.not_mem_nil,or_false,Dg]
 omega
def oP {β : Type} (f : β→PV):Option β→PV
 | none => .non
 | some b => f b
theorem oP_n {β : Type} (f : β→PV):oP f none = .non:=rfl
theorem oP_s {β : Type} (f : β→PV) (b : β):oP f (some b) = f b:=rfl
theorem nons_oP {α β : Type} {f : β→PV} (hf:∀ b,∃ xs,f b = .tup xs) (o : α→Option β):∀ l:List α,nonsP (l.map fun a => oP f (o a)) = some (allO (l.map o)).isNone
 | [] => rfl
 | a :: l => by
  have ih:=nons_oP hf o l
  rw [List.map_cons,List.map_cons]
  cases ho:o a with
  | none => simp only [oP_n,nonsP,ih,allO,Option.map_some,Option.isNone_none]
  | some b =>
   obtain ⟨xs,hx⟩:=hf b
   simp only [oP_s,hx,nonsP,ih,allO,Option.isNone_map]
theorem oP_some {α β : Type} {f : β→PV} {o : α→Option β} {l:List α} {bs:List β} (h:allO (l.map o) = some bs):(l.map fun a => oP f (o a)) = bs.map f:=by
 have h:=allO_some.mp h
 have:(l.map fun a => oP f (o a)) = (l.map o).map (oP f):=by rw [List.map_map]; rfl
 rw [this,h,List.map_map]
 rfl
def oI:Option Int→PV
 | none => .non
 | some i => .int i
theorem wholeG_wp {t:Str} {S:Sto} {P:PV→Sto→Prop} {R:Str→PV→Sto→Prop} (hl:t.length ≤ 100000) (h:∀ S',Keep [] S S'→P (oI (rdWhole t)) S'):wp (m_q25 [.str t] S) P R:=by
 unfold m_q25
 rw [callS_wp]
 have l16:t.length ≤ 16777216:=by omega
 have lf:(figsT t).length ≤ 100000:=by
  unfold figsT
  split
  ·exact Nat.le_trans (cut_len _ _ _) hl
  ·exact hl
 have l16f:(figsT t).length ≤ 16777216:=by omega
 have no:∀ S',¬ WhOk t→Keep [] S S'→P .non S':=fun S' n k => by have:=h S' k; rwa [rdWhole_no n] at this
 simp [startE,-e_seqS,-zq0,-zq1,-zq2,-zq3,-zq4,-zq5,-zq6]
 refine seq_split (fun τ S' => S' = S∧τ = [some (.str t),some (.str (figsT t)),none]) ?_ ?_
 ·simp [l16,-zq0,-zq1,-zq2,-zq3,-zq4,-zq5,-zq6]
  exact ⟨fun z => (if_pos z).symm,fun z => (if_neg z).symm⟩
 rintro τ S1 ⟨rfl,rfl⟩
 by_cases h1:1 ≤ (figsT t).length
 case neg =>
  have h1':¬ (1:Int) ≤ ((figsT t).length:Nat):=by omega
  simp [l16f,h1',-zq0,-zq1,-zq2,-zq3,-zq4,-zq5,-zq6]
  exact no S1 (fun w => h1 w.1) .refl
 by_cases h60:(figsT t).length ≤ 60
 case neg =>
  have h1':(1:Int) ≤ ((figsT t).length:Nat):=by omega
  have h60':¬ ((figsT t).length:Int) ≤ 60:=by omega
  simp [l16f,h1',h60',-zq0,-zq1,-zq2,-zq3,-zq4,-zq5,-zq6]
  exact no S1 (fun w => h60 w.2.1) .refl
 have h1':(1:Int) ≤ ((figsT t).length:Nat):=by omega
 have h60':((figsT t).length:Int) ≤ 60:=by omega
 simp [l16f,h1',h60',-zq0,-zq1,-zq2,-zq3,-zq4,-zq5,-zq6]
 have hcl:=ch_len (figsT t)
 refine acc_map (fun c => PV.str ⟨#[c]⟩) (fun c => PV.bl (decide (Dg c))) (by simp) (by unfold ch at hcl; simp only [List.length_nil]; omega) (fun c hc acc J hl hJ => ⟨_,rfl,?_⟩) ?_
 ·simp [wipeE,stepE_wp,fig_in,hl,-zq0,-zq1,-zq2,-zq3,-zq4,-zq5,-zq6]
  exact hJ
 refine new_wp ?_
 intro n S2 e2 k2 g2
 have lk2:=k2.1
 rw [List.nil_append] at e2
 obtain ⟨bs,e3,hb2⟩:∃ bs,boolsP ((figsT t).cps.toList.map fun c => PV.bl (decide (Dg c))) = some bs∧(bs.all id = true↔DigS (figsT t)):=by
  refine ⟨_,boolsP_map (fun c => decide (Dg c)) (figsT t).cps.toList,?_⟩
  rw [List.all_eq_true]
  constructor
  ·intro q c hc
   exact of_decide_eq_true (q _ (List.mem_map.mpr ⟨c,hc,rfl⟩))
  ·rintro q b hb
   obtain ⟨c,hc,rfl⟩:=List.mem_map.mp hb
   exact decide_eq_true (q c hc)
 cases hbs:bs.all id with
 | false =>
  have hd:¬ DigS (figsT t):=fun z => by have:=hb2.mpr z; rw [hbs] at this; cases this
  simp [e2,e3,hbs,-zq0,-zq1,-zq2,-zq3,-zq4,-zq5,-zq6]
  exact no S2 (fun w => hd w.2.2.1) k2
 | true =>
  have hd:DigS (figsT t):=hb2.mp hbs
  simp [e2,e3,hbs,-zq0,-zq1,-zq2,-zq3,-zq4,-zq5,-zq6]
  obtain ⟨c,r,hcr⟩:∃ c r,ch (figsT t) = c :: r:=by
   cases q:ch (figsT t) with
   | nil => rw [q] at hcl; simp at hcl; omega
   | cons c r => exact ⟨c,r,rfl⟩
  have ha:atI (figsT t).cps.toList 0 = some c:=by
   have:(figsT t).cps.toList = c :: r:=hcr
   rw [this]; simp
  have c0:(({ cps:=#[c] }:Str) = Str.ofString "0")↔c = 48:=by
   constructor
   ·intro z
    have:=congrArg ch z
    rw [c_zero] at this
    simpa [ch] using this
   ·intro z
    rw [z]
    decide +kernel
  simp [ha,l16f,c0,-zq0,-zq1,-zq2,-zq3,-zq4,-zq5,-zq6]
  have fin:¬ (c = 48∧t ≠ Str.ofString "0")→∃ i,PySem.intText? t = some i∧t.length ≤ 640∧P (.int i) S2:=fun z => by
   have w:WhOk t:=⟨h1,h60,hd,fun ⟨⟨r',hr'⟩,q⟩ => z ⟨by rw [hcr] at hr'; exact (List.cons.inj hr').1,q⟩⟩
   obtain ⟨i,hi,hr⟩:=rdWhole_ok w
   have:=h S2 k2
   rw [hr] at this
   exact ⟨i,hi,by have:=(whOk_len w).1; omega,this⟩
  refine ⟨fun hz => ⟨fun ht => ?_,fun ht => no S2 (fun w => w.2.2.2 ⟨⟨r,by rw [hcr,hz]⟩,ht⟩) k2⟩,fun hz => ?_⟩
  ·obtain ⟨i,i1,i2,i3⟩:=fin (fun z => z.2 ht)
   simp [i1,i2,-zq0,-zq1,-zq2,-zq3,-zq4,-zq5,-zq6]
   exact i3
  ·obtain ⟨i,i1,i2,i3⟩:=fin (fun z => hz z.1)
   simp [i1,i2,-zq0,-zq1,-zq2,-zq3,-zq4,-zq5,-zq6]
   exact i3
theorem termG_wp {w:Str} {S:Sto} {P:PV→Sto→Prop} {R:Str→PV→Sto→Prop} (hl:w.length ≤ 100000) (h:∀ S',Keep [] S S'→P (oP Trm.pv (rdTm w)) S'):wp (m_q33 [.str w] S) P R:=by
 unfold m_q33
 rw [callS_wp]
 have l16:w.length ≤ 16777216:=by omega
 have hc1:=cut_len w (some 1) none
 by_cases hq:cutS w none (some 1) = Str.ofString "?"
 ·have hr:rdTm w = if Nm (cutS w (some 1) none) then some (.name (cutS w (some 1) none)) else none:=if_pos hq
  simp [startE,l16,hq,-zq0,-zq1,-zq2,-zq3,-zq4,-zq5,-zq6]
  refine is_nameG_wp (by omega) ?_
  intro S1 k1
  have:=h S1 k1
  rw [hr] at this
  by_cases hn:Nm (cutS w (some 1) none)
  ·rw [if_pos hn] at this
   simp [hn,l16,-zq0,-zq1,-zq2,-zq3,-zq4,-zq5,-zq6]
   exact this
  ·rw [if_neg hn] at this
   simp [hn,l16,-zq0,-zq1,-zq2,-zq3,-zq4,-zq5,-zq6]
   exact this
 by_cases hu:cutS w none (some 1) = Str.ofString "'"
 case neg =>
  have hr:rdTm w = (rdWhole w).map .num:=by unfold rdTm; rw [if_neg hq,if_neg hu]
  simp [startE,l16,hq,hu,-zq0,-zq1,-zq2,-zq3,-zq4,-zq5,-zq6]
  refine wholeG_wp hl ?_
  intro S1 k1
  have:=h S1 k1
  rw [hr] at this
  cases hw:rdWhole w with
  | none => rw [hw] at this; simp [oI,-zq0,-zq1,-zq2,-zq3,-zq4,-zq5,-zq6]; exact this
  | some i => rw [hw] at this; simp [oI,-zq0,-zq1,-zq2,-zq3,-zq4,-zq5,-zq6]; exact this
 have hr:rdTm w = if TxOk w then some (.txt (inT w)) else none:=by unfold rdTm; rw [if_neg hq,if_pos hu]
 have li:(inT w).length ≤ w.length:=cut_len w (some 1) (some (-1))
 have no:∀ S',¬ TxOk w→Keep [] S S'→P .non S':=fun S' n k => by have:=h S' k; rw [hr,if_neg n] at this; exact this
 have q1:(Str.ofString "'").length = 1:=by decide +kernel
 have ee:∀ z:Str,Str.empty ++ z = z:=Str.empty_append
 simp [startE,-e_seqS,-zq0,-zq1,-zq2,-zq3,-zq4,-zq5,-zq6]
 refine seq_split (fun τ S' => S' = S∧τ = [some (.str w),none,none,none]) (by simp [l16,hq,-zq0,-zq1,-zq2,-zq3,-zq4,-zq5,-zq6]) ?_
 rintro τ S1 ⟨rfl,rfl⟩
 refine seq_split (fun τ S' => S' = S1∧τ = [some (.str w),none,none,none]) (by simp [l16,hu,-zq0,-zq1,-zq2,-zq3,-zq4,-zq5,-zq6]) ?_
 rintro τ S2 ⟨rfl,rfl⟩
 refine seq_split (fun τ S' => S' = S2∧τ = [some (.str w),some (.str (inT w)),none,none]) (by simp [l16,-zq0,-zq1,-zq2,-zq3,-zq4,-zq5,-zq6]; rfl) ?_
 rintro τ S3 ⟨rfl,rfl⟩
 have e3:((Str.ofString "'" ++ inT w ++ Str.ofString "'").length) = (inT w).length + 2:=by rw [RU.app_len,RU.app_len,q1]; omega
 have e2:((Str.ofString "'" ++ inT w).length) = (inT w).length + 1:=by rw [RU.app_len,q1]; omega
 have b1:(inT w).length ≤ 16777216:=by omega
 have b2:(Str.ofString "'" ++ inT w).length ≤ 16777216:=by omega
 have b3:(Str.ofString "'" ++ inT w ++ Str.ofString "'").length ≤ 16777216:=by omega
 have b4:(Str.ofString "'").length ≤ 16777216:=by omega
 by_cases hi:w = Str.ofString "'" ++ inT w ++ Str.ofString "'"
 case neg =>
  simp [ee,b1,b2,b3,b4,hi,-zq0,-zq1,-zq2,-zq3,-zq4,-zq5,-zq6]
  exact no S3 (fun z => hi z.1) .refl
 by_cases h1:1 ≤ (inT w).length
 case neg =>
  have h1':¬ (1:Int) ≤ ((inT w).length:Nat):=by omega
  simp [ee,b1,b2,b3,b4,← hi,l16,h1',-zq0,-zq1,-zq2,-zq3,-zq4,-zq5,-zq6]
  exact no S3 (fun z => h1 z.2.1) .refl
 by_cases h12:(inT w).length ≤ 12
 case neg =>
  have h1':(1:Int) ≤ ((inT w).length:Nat):=by omega
  have h60':¬ ((inT w).length:Int) ≤ 12:=by omega
  simp [ee,b1,b2,b3,b4,← hi,l16,h1',h60',-zq0,-zq1,-zq2,-zq3,-zq4,-zq5,-zq6]
  exact no S3 (fun z => h12 z.2.2.1) .refl
 have h1':(1:Int) ≤ ((inT w).length:Nat):=by omega
 have h60':((inT w).length:Int) ≤ 12:=by omega
 simp [ee,b1,b2,b3,b4,← hi,l16,h1',h60',-zq0,-zq1,-zq2,-zq3,-zq4,-zq5,-zq6]
 have hcl:=ch_len (inT w)
 refine acc_map (fun c => PV.str ⟨#[c]⟩) (fun c => PV.bl (decide (Lt c))) (by simp) (by unfold ch at hcl; simp only [List.length_nil]; omega) (fun c hc acc J hl hJ => ⟨_,rfl,?_⟩) ?_
 ·simp [wipeE,stepE_wp,inB_char,hl,-zq0,-zq1,-zq2,-zq3,-zq4,-zq5,-zq6]
  exact hJ
 refine new_wp ?_
 intro n S4 e4 k4 g4
 have lk4:=k4.1
 rw [List.nil_append] at e4
 obtain ⟨bs,e5,hb2⟩:∃ bs,boolsP ((inT w).cps.toList.map fun c => PV.bl (decide (Lt c))) = some bs∧(bs.all id = true↔Lw (inT w)):=by
  refine ⟨_,boolsP_map (fun c => decide (Lt c)) (inT w).cps.toList,?_⟩
  rw [List.all_eq_true]
  constructor
  ·intro q c hc
   exact of_decide_eq_true (q _ (List.mem_map.mpr ⟨c,hc,rfl⟩))
  ·rintro q b hb
   obtain ⟨c,hc,rfl⟩:=List.mem_map.mp hb
   exact decide_eq_true (q c hc)
 cases hbs:bs.all id with
 | false =>
  simp [e4,e5,hbs,-zq0,-zq1,-zq2,-zq3,-zq4,-zq5,-zq6]
  exact no S4 (fun z => by have:=hb2.mpr z.2.2.2; rw [hbs] at this; cases this) k4
 | true =>
  simp [e4,e5,hbs,-zq0,-zq1,-zq2,-zq3,-zq4,-zq5,-zq6]
  have fin:=h S4 k4
  rw [hr,if_pos ⟨hi,h1,h12,hb2.mp hbs⟩] at fin
  exact fin
theorem pv_tup (t:Trm):∃ xs,t.pv = .tup xs:=by cases t <;> exact ⟨_,rfl⟩
theorem atomG_wp {l:Nat} {ws:List Str} {S:Sto} {P:PV→Sto→Prop} {R:Str→PV→Sto→Prop} (e:S[l]? = some (.lst (ws.map PV.str))) (hn:ws.length ≤ 100000) (hw:∀ w ∈ ws,w.length ≤ 100000) (h:∀ S',Keep [] S S'→P (oP atmP (rdAt ws)) S'):wp (m_q31 [.loc l] S) P R:=by
 unfold m_q31
 rw [callS_wp]
 simp [startE,-zq0,-zq1,-zq2,-zq3,-zq4,-zq5,-zq6]
 refine lst_wp (by simp) ?_
 intro l1 S1 e1 k1 g1
 have lk1:=k1.1
 have e01:=k1.get e (by simp)
 cases ws with
 | nil =>
  have e01:S1[l]? = some (.lst []):=e01
  simp [e01,e1,-zq0,-zq1,-zq2,-zq3,-zq4,-zq5,-zq6]
  exact h S1 k1
 | cons x ws =>
  have no:∀ S',¬ RlOk x→Keep [] S S'→P .non S':=fun S' n k => by have:=h S' k; rw [rdAt_cons,if_neg n] at this; exact this
  have hx:=hw x (by simp)
  have e01:S1[l]? = some (.lst (.str x :: ws.map PV.str)):=e01
  simp [e01,e1,-zq0,-zq1,-zq2,-zq3,-zq4,-zq5,-zq6]
  refine is_nameG_wp hx ?_
  intro S2 k2
  by_cases hnm:Nm x
  case neg =>
   simp [hnm,-zq0,-zq1,-zq2,-zq3,-zq4,-zq5,-zq6]
   exact no S2 (fun z => hnm z.1) (k1.trans k2)
  have e02:=k2.get e01 (by simp)
  have hk:=inItems_strs x ["if", "not"]
  simp only [List.map_cons,List.map_nil] at hk
  have hk':inB (.str x) (.tup [.str "if",.str "not"]) S2 = some (decide (x ∈ (["if", "not"]:List Str))):=hk
  by_cases hin:x ∈ (["if", "not"]:List Str)
  ·rw [decide_eq_true hin] at hk'
   simp [hnm,e02,hk',-zq0,-zq1,-zq2,-zq3,-zq4,-zq5,-zq6]
   refine no S2 (fun z => ?_) (k1.trans k2)
   rcases List.mem_cons.mp hin with q | q
   ·exact z.2.1 q
   ·exact z.2.2 (by simpa using q)
  rw [decide_eq_false hin] at hk'
  have hrl:RlOk x:=⟨hnm,fun z => hin (by rw [z]; exact List.mem_cons_self ..),fun z => hin (by rw [z]; exact List.mem_cons_of_mem _ (List.mem_cons_self ..))⟩
  simp [hnm,e02,hk',-zq0,-zq1,-zq2,-zq3,-zq4,-zq5,-zq6]
  refine slL_wp e02 ?_
  intro l3 S3 e3 k3 g3
  have lk3:=k3.1
  have e3:S3[l3]? = some (.lst (ws.map PV.str)):=by
   rw [e3]
   have c2:cutP ((PV.str x) :: ws.map PV.str) (some ((1:Nat):Int)) none = ws.map PV.str:=by rw [cut_drop]; simp
   exact congrArg (fun q => some (Ob.lst q)) c2
  simp [e3,-zq0,-zq1,-zq2,-zq3,-zq4,-zq5,-zq6]
  refine accK_wp PV.str (fun w => oP Trm.pv (rdTm w)) (fun S' k => by simp; exact k.get e3 (by simp)) (by simp at hn ⊢; omega) (fun w hwm acc S4 J hl k4 hJ => ⟨_,rfl,?_⟩) ?_
  ·simp [wipeE,stepE_wp,-zq0,-zq1,-zq2,-zq3,-zq4,-zq5,-zq6]
   refine termG_wp (hw w (by simp [hwm])) ?_
   intro S5 k5
   simp [-zq0,-zq1,-zq2,-zq3,-zq4,-zq5,-zq6]
   exact ⟨hl,hJ S5 (k4.trans k5)⟩
  intro S4 k4
  refine new_wp ?_
  intro l5 S5 e5 k5 g5
  have lk5:=k5.1
  have e05:=((k3.trans k4).trans k5).get e02 (by simp)
  have fin:=h S5 ((((k1.trans k2).trans k3).trans k4).trans k5)
  rw [rdAt_cons,if_pos hrl] at fin
  rw [List.nil_append] at e5
  have hnn:=nons_oP pv_tup rdTm ws
  cases ha:allO (ws.map rdTm) with
  | none =>
   rw [ha] at fin hnn
   simp [e5,hnn,e05,-zq0,-zq1,-zq2,-zq3,-zq4,-zq5,-zq6]
   exact fin
  | some ts =>
   rw [ha] at fin hnn
   have ho:=oP_some (f:=Trm.pv) ha
   rw [ho] at e5 hnn
   simp [e5,hnn,e05,-zq0,-zq1,-zq2,-zq3,-zq4,-zq5,-zq6]
   exact fin
end K59
namespace K59
open PySem PySem.Spec PyProof.Rows L2 PL RU RQ
open Classical
theorem mem_sum {n:Nat}:∀ {l:List Nat},n ∈ l→n ≤ l.sum
 | [],h => by cases h
 | a :: l,h => by
  rw [List.sum_cons]
  rcases List.mem_cons.mp h with rfl | h
  ·omega
  ·have:=mem_sum h; omega
theorem split_lens {t y:Str} {k:Nat} (h:t.length ≤ k):(∀ w ∈ Txt.split t y,w.length ≤ k)∧(1 ≤ y.length→(Txt.split t y).length ≤ k + 1):=by
 have hb:=split_back t y
 have hs:=PySem.size_glued y (Txt.split t y)
 have e:Builtin.Str.glued y (Txt.split t y) = t:=hb
 rw [e] at hs
 constructor
 ·intro w hw
  have:w.length ≤ ((Txt.split t y).map (·.length)).sum:=mem_sum (List.mem_map_of_mem hw)
  omega
 ·intro hy
  have:(Txt.split t y).length - 1 ≤ ((Txt.split t y).length - 1) * y.length:=Nat.le_mul_of_pos_right _ hy
  omega
theorem lit_tup (l:Lit):∃ xs,litP l = .tup xs:=⟨_,rfl⟩
theorem literalG_wp {t:Str} {S:Sto} {P:PV→Sto→Prop} {R:Str→PV→Sto→Prop} (hl:t.length ≤ 10000) (h:∀ S',Keep [] S S'→P (oP litP (rdLi t)) S'):wp (m_q12 [.str t] S) P R:=by
 unfold m_q12
 rw [callS_wp]
 simp [startE,-zq0,-zq1,-zq2,-zq3,-zq4,-zq5,-zq6]
 refine split_wp (by decide +kernel) (by omega) rfl ?_
 intro l1 S1 e1 k1 g1
 have lk1:=k1.1
 have hs1:=(split_lens (y:=Str.ofString " ") hl).1
 have hs2:=(split_lens (y:=Str.ofString " ") hl).2 (by decide +kernel)
 obtain ⟨w,ws,hw⟩:=List.exists_cons_of_ne_nil (split_ne t (Str.ofString " "))
 have hr:=rdLi_of hw
 rw [hw] at hs1 hs2 e1
 have e1:S1[l1]? = some (.lst (.str w :: ws.map PV.str)):=e1
 simp only [List.length_cons] at hs2
 by_cases hn:w = Str.ofString "not"
 ·rw [if_pos hn] at hr
  simp [e1,hn,-zq0,-zq1,-zq2,-zq3,-zq4,-zq5,-zq6]
  refine slL_wp e1 ?_
  intro l3 S3 e3 k3 g3
  have lk3:=k3.1
  have e3:S3[l3]? = some (.lst (ws.map PV.str)):=by
   rw [e3]
   have c2:cutP ((PV.str w) :: ws.map PV.str) (some ((1:Nat):Int)) none = ws.map PV.str:=by rw [cut_drop]; simp
   exact congrArg (fun q => some (Ob.lst q)) c2
  simp [-zq0,-zq1,-zq2,-zq3,-zq4,-zq5,-zq6]
  refine atomG_wp e3 (by omega) (fun v hv => Nat.le_trans (hs1 v (by simp [hv])) (by decide)) ?_
  intro S4 k4
  have fin:=h S4 ((k1.trans k3).trans k4)
  rw [hr] at fin
  cases ha:rdAt ws with
  | none => rw [ha] at fin; simp [oP_n,-zq0,-zq1,-zq2,-zq3,-zq4,-zq5,-zq6]; exact fin
  | some a => rw [ha] at fin; simp [oP_s,atmP,-zq0,-zq1,-zq2,-zq3,-zq4,-zq5,-zq6]; exact fin
 ·rw [if_neg hn] at hr
  simp [e1,hn,-zq0,-zq1,-zq2,-zq3,-zq4,-zq5,-zq6]
  refine atomG_wp (ws:=w :: ws) e1 (by simp; omega) (fun v hv => Nat.le_trans (hs1 v hv) (by decide)) ?_
  intro S4 k4
  have fin:=h S4 (k1.trans k4)
  rw [hr] at fin
  cases ha:rdAt (w :: ws) with
  | none => rw [ha] at fin; simp [oP_n,-zq0,-zq1,-zq2,-zq3,-zq4,-zq5,-zq6]; exact fin
  | some a => rw [ha] at fin; simp [oP_s,atmP,-zq0,-zq1,-zq2,-zq3,-zq4,-zq5,-zq6]; exact fin
theorem part_lens {t:Str} {k:Nat} (h:t.length ≤ k):(Txt.partition t (Str.ofString " if ")).1.length ≤ k∧(Txt.partition t (Str.ofString " if ")).2.2.length ≤ k:=by
 rcases part_back t with ⟨_,p⟩ | p
 ·have:=congrArg Str.length p
  rw [RU.app_len,RU.app_len] at this
  constructor <;> omega
 ·rw [p]
  exact ⟨h,by simp [Str.empty,Str.length]⟩
theorem rul_tup (r:Rul):∃ xs,rulP r = .tup xs:=⟨_,rfl⟩
theorem ruleG_wp {t:Str} {S:Sto} {P:PV→Sto→Prop} {R:Str→PV→Sto→Prop} (hl:t.length ≤ 10000) (h:∀ S',Keep [] S S'→P (oP rulP (rdRu t)) S'):wp (m_q34 [.str t] S) P R:=by
 unfold m_q34
 rw [callS_wp]
 have l16:t.length ≤ 16777216:=by omega
 have c4:((Str.ofString " if ").length == 0) = false:=by decide +kernel
 obtain ⟨p1,p2⟩:=part_lens hl
 have hr:rdRu t = (rdAt (Txt.split (Txt.partition t (Str.ofString " if ")).1 (Str.ofString " "))).bind fun h => (rdBo (Txt.partition t (Str.ofString " if ")).2.1 (Txt.partition t (Str.ofString " if ")).2.2).map fun b => (h,b):=rfl
 simp [startE,l16,c4,-zq0,-zq1,-zq2,-zq3,-zq4,-zq5,-zq6]
 generalize Txt.partition t (Str.ofString " if ") = pt at p1 p2 hr ⊢
 obtain ⟨a,m,b⟩:=pt
 simp only at p1 p2 hr ⊢
 refine split_wp (by decide +kernel) (by omega) rfl ?_
 intro l1 S1 e1 k1 g1
 have lk1:=k1.1
 have hs1:=(split_lens (y:=Str.ofString " ") p1).1
 have hs2:=(split_lens (y:=Str.ofString " ") p1).2 (by decide +kernel)
 simp [-zq0,-zq1,-zq2,-zq3,-zq4,-zq5,-zq6]
 refine atomG_wp e1 (by omega) (fun v hv => Nat.le_trans (hs1 v hv) (by decide)) ?_
 intro S2 k2
 obtain ⟨ho,hho⟩:∃ ho,ho = rdAt (Txt.split a (Str.ofString " ")):=⟨_,rfl⟩
 rw [← hho] at hr ⊢
 have hisn:isNon (oP atmP ho) = ho.isNone:=by cases ho <;> rfl
 by_cases hm:m = Str.ofString ""
 ·have hbo:rdBo m b = some []:=by unfold rdBo; rw [if_neg (by simp [hm])]
  have fin:=h S2 (k1.trans k2)
  rw [hr,hbo] at fin
  simp [hm,hisn,nonsP,-zq0,-zq1,-zq2,-zq3,-zq4,-zq5,-zq6]
  cases ho with
  | none => simp [-zq0,-zq1,-zq2,-zq3,-zq4,-zq5,-zq6]; exact fin
  | some hd => simp [-zq0,-zq1,-zq2,-zq3,-zq4,-zq5,-zq6]; exact fin
 ·have hbo:rdBo m b = allO ((Txt.split b (Str.ofString ", ")).map rdLi):=by unfold rdBo; rw [if_pos hm]
  simp [hm,-zq0,-zq1,-zq2,-zq3,-zq4,-zq5,-zq6]
  refine split_wp (by decide +kernel) (by omega) rfl ?_
  intro l3 S3 e3 k3 g3
  have lk3:=k3.1
  have hs3:=(split_lens (y:=Str.ofString ", ") p2).1
  have hs4:=(split_lens (y:=Str.ofString ", ") p2).2 (by decide +kernel)
  simp [e3,-zq0,-zq1,-zq2,-zq3,-zq4,-zq5,-zq6]
  refine accK_wp PV.str (fun w => oP litP (rdLi w)) (fun S' k => by simp; exact k.get e3 (by simp)) (by simp; omega) (fun w hwm acc S4 J hl k4 hJ => ⟨_,rfl,?_⟩) ?_
  ·simp [wipeE,stepE_wp,-zq0,-zq1,-zq2,-zq3,-zq4,-zq5,-zq6]
   refine literalG_wp (hs3 w hwm) ?_
   intro S5 k5
   simp [-zq0,-zq1,-zq2,-zq3,-zq4,-zq5,-zq6]
   exact ⟨hl,hJ S5 (k4.trans k5)⟩
  intro S4 k4
  refine new_wp ?_
  intro l5 S5 e5 k5 g5
  have lk5:=k5.1
  rw [List.nil_append] at e5
  have hnn:=nons_oP lit_tup rdLi (Txt.split b (Str.ofString ", "))
  have fin:=h S5 ((((k1.trans k2).trans k3).trans k4).trans k5)
  rw [hr,hbo] at fin
  cases hb:allO ((Txt.split b (Str.ofString ", ")).map rdLi) with
  | none =>
   rw [hb] at fin hnn
   have fin:P .non S5:=by cases ho <;> exact fin
   simp [e5,hnn,hisn,-zq0,-zq1,-zq2,-zq3,-zq4,-zq5,-zq6]
   cases ho with
   | none => first | exact fin | (simp [-zq0,-zq1,-zq2,-zq3,-zq4,-zq5,-zq6]; exact fin)
   | some hd => first | exact fin | (simp [-zq0,-zq1,-zq2,-zq3,-zq4,-zq5,-zq6]; exact fin)
  | some bs =>
   rw [hb] at fin hnn
   have ho2:=oP_some (f:=litP) hb
   rw [ho2] at e5 hnn
   simp [e5,hnn,hisn,-zq0,-zq1,-zq2,-zq3,-zq4,-zq5,-zq6]
   cases ho with
   | none => first | exact fin | (simp [-zq0,-zq1,-zq2,-zq3,-zq4,-zq5,-zq6]; exact fin)
   | some hd => first | exact fin | (simp [-zq0,-zq1,-zq2,-zq3,-zq4,-zq5,-zq6]; exact fin)
end K59
namespace K59
open PySem PySem.Spec PyProof.Rows L2 PL RU RQ
open Classical
def lkP (k:Str × Str × Bool):PV:=.tup [.str k.1,.str k.2.1,.bl k.2.2]
theorem linkR_len (rs:List Rul) (r:Rul):(linkR rs r).length ≤ r.2.length:=by
 unfold linkR
 rw [List.length_map]
 exact List.length_filter_le _ _
theorem links_of_wp {rs:List Rul} {p:PV} {S:Sto} {P:PV→Sto→Prop} {R:Str→PV→Sto→Prop} (hp:SqAt S p (rs.map rulP)) (hl:(allParts rs).length ≤ 100000) (h:∀ n S',S'[n]? = some (.lst ((links rs).map lkP))→Keep [] S S'→S.length ≤ n→P (.loc n) S'):wp (m_q28 [p] S) P R:=by
 unfold m_q28
 rw [callS_wp]
 have hrl:rs.length ≤ (allParts rs).length:=by
  have:∀ rs:List Rul,rs.length ≤ (allParts rs).length:=by
   intro rs
   induction rs with
   | nil => simp
   | cons r rs ih => simp [allParts,parts] at ih ⊢; omega
  exact this rs
 simp [startE,-zq0,-zq1,-zq2,-zq3,-zq4,-zq5,-zq6]
 refine heads_of_wp hp (by omega) ?_
 intro d ks S1 e1 hks k1 g1
 simp [-zq0,-zq1,-zq2,-zq3,-zq4,-zq5,-zq6]
 refine lst_wp (by simp) ?_
 intro f S2 e2 k2 g2
 have lk2:=k2.1
 have k02:=k1.trans k2
 have e12:=k2.get e1 (by simp)
 obtain ⟨g,hg⟩:=hp.itr
 have hg0:=(hg [] S2 k02 (by simp)).1
 have k1l:=k1.1
 have hok:∀ S',Keep [f] S2 S'→Wk.ok ⟨rs.map rulP,g⟩ S':=fun S' k => (hg [f] S' ((k02.mono (by simp)).trans k) (by simp; omega)).2
 simp [hg0,-zq0,-zq1,-zq2,-zq3,-zq4,-zq5,-zq6]
 have ldl:d < S1.length:=lt_of_get e1
 refine forM_wp rulP (fun dn τ S' => (∃ x3 x4 x5 x6 x7,τ = [some p,some (.loc d),some (.loc f),x3,x4,x5,x6,x7])∧S'[f]? = some (.lst ((dn.flatMap (linkR rs)).map lkP))∧Keep [f] S2 S') ⟨⟨_,_,_,_,_,rfl⟩,e2,.refl⟩ ?_ ?_
 ·rintro dn r rest τ S3 J hrs ⟨⟨x3,x4,x5,x6,x7,rfl⟩,e3,k3⟩ hJ
  have hal:(dn.flatMap (linkR rs)).length + r.2.length ≤ 100000:=by
   have h1:(allParts dn).length + (parts r).length ≤ (allParts rs).length:=by
    have:allParts rs = allParts dn ++ (parts r ++ allParts rest):=by unfold allParts; rw [hrs]; simp
    rw [this]; simp
   have h2:∀ qs:List Rul,(qs.flatMap (linkR rs)).length ≤ (allParts qs).length:=by
    intro qs
    induction qs with
    | nil => simp
    | cons q qs ih =>
     have:=linkR_len rs q
     simp [allParts,parts] at ih ⊢; omega
   have h3:=h2 dn
   have h4:(parts r).length = r.2.length + 1:=by simp [parts]
   omega
  refine ⟨hok S3 k3,_,rfl,?_⟩
  have e13:=k3.get e12 (by simp; omega)
  simp [atmP,e3,-zq0,-zq1,-zq2,-zq3,-zq4,-zq5,-zq6]
  have hf:(r.2.flatMap fun l => if IsHead rs l.1 then [lkP (r.1.1,l.1,!l.2.2)] else []) = (linkR rs r).map lkP:=by
   unfold linkR
   rw [List.map_map]
   have:∀ ls:List Lit,(ls.flatMap fun l => if IsHead rs l.1 then [lkP (r.1.1,l.1,!l.2.2)] else []) = (ls.filter fun l => decide (IsHead rs l.1)).map (lkP ∘ fun l => (r.1.1,l.1,!l.2.2)):=by
    intro ls
    induction ls with
    | nil => rfl
    | cons l ls ih =>
     rw [List.flatMap_cons,ih,List.filter_cons]
     by_cases q:IsHead rs l.1
     ·rw [if_pos q,if_pos (decide_eq_true q)]; rfl
     ·rw [if_neg q,if_neg (by simpa using q)]; rfl
   exact this r.2
  have hfl:=linkR_len rs r
  refine accF_wp litP (fun l => if IsHead rs l.1 then [lkP (r.1.1,l.1,!l.2.2)] else []) (xs:=r.2) ?_ ?_ ?_ ?_
  ·intro S' k; simp
  ·rw [hf]; simp; omega
  ·intro l hlm acc S4 J2 hl4 k4 hJ2
   refine ⟨_,rfl,?_⟩
   have hin:inB (.str l.1) (.loc d) S4 = some (decide (IsHead rs l.1)):=by
    rw [setKV_in (k4.get e13 (by simp))]
    congr 1
    exact decide_eq_decide.mpr (hks l.1)
   have hJ2:=hJ2 S4 k4
   by_cases q:IsHead rs l.1
   ·rw [if_pos q] at hJ2 hl4
    simp [wipeE,stepE_wp,hin,q,-zq0,-zq1,-zq2,-zq3,-zq4,-zq5,-zq6]
    exact ⟨by simp at hl4; omega,hJ2⟩
   ·rw [if_neg q] at hJ2 hl4
    simp [wipeE,stepE_wp,hin,q,-zq0,-zq1,-zq2,-zq3,-zq4,-zq5,-zq6]
    simpa using hJ2
  ·intro S4 k4
   refine new_wp ?_
   intro n5 S5 e5 k5 g5
   have lk5:=k5.1
   rw [List.nil_append,hf] at e5
   have e35:=(k4.trans k5).get e3 (by simp)
   have hb:(dn.flatMap (linkR rs)).length + (linkR rs r).length ≤ 16777216:=by omega
   simp [e35,e5,-zq0,-zq1,-zq2,-zq3,-zq4,-zq5,-zq6]
   refine ⟨by simpa using hb,hJ _ _ ⟨⟨_,_,_,_,_,rfl⟩,?_,?_⟩⟩
   ·rw [set_get e35]; simp
   ·exact k3.trans (((k4.trans k5).mono (by simp)).trans (.set (by simp)))
 ·rintro τ S3 ⟨⟨x3,x4,x5,x6,x7,rfl⟩,e3,k3⟩
  refine ⟨hok S3 k3,?_⟩
  simp [-zq0,-zq1,-zq2,-zq3,-zq4,-zq5,-zq6]
  exact h f S3 e3 (((k02.mono (M':=[f]) (by simp)).trans k3).mono (by intro x hx hlt; simp at hx ⊢; omega)) (by omega)
end K59
namespace K59
open PySem PySem.Spec PyProof.Rows L2 PL RU RQ
open Classical
noncomputable def unmet (L:List (Str × Str × Bool)) (F:List Str):Nat:=(L.filter fun k => decide (k.2.1 ∉ F)).length
theorem filter_le {α : Type} {p q : α→Bool}:∀ {l:List α},(∀ x ∈ l,p x = true→q x = true)→(l.filter p).length ≤ (l.filter q).length
 | [],_ => by simp
 | x :: l,h => by
  have ih:=filter_le (l:=l) fun y hy => h y (by simp [hy])
  rw [List.filter_cons,List.filter_cons]
  have hx:=h x (by simp)
  cases hp:p x with
  | false =>
   rw [if_neg (by simp)]
   split
   ·rw [List.length_cons]; omega
   ·exact ih
  | true => rw [hx hp]; simpa using ih
theorem unmet_new {L:List (Str × Str × Bool)} {F:List Str} {k:Str × Str × Bool} (hk:k ∈ L) (hn:k.2.1 ∉ F):unmet L (F ++ [k.2.1]) + 1 ≤ unmet L F:=by
 obtain ⟨a,b,rfl⟩:=List.append_of_mem hk
 unfold unmet
 rw [List.filter_append,List.filter_append,List.filter_cons,List.filter_cons,if_neg (by simp),if_pos (by simpa using hn)]
 have h1:(a.filter fun q => decide (q.2.1 ∉ F ++ [k.2.1])).length ≤ (a.filter fun q => decide (q.2.1 ∉ F)).length:=filter_le fun x hx h => by
  simp at h ⊢; exact h.1
 have h2:(b.filter fun q => decide (q.2.1 ∉ F ++ [k.2.1])).length ≤ (b.filter fun q => decide (q.2.1 ∉ F)).length:=filter_le fun x hx h => by
  simp at h ⊢; exact h.1
 simp only [List.length_append,List.length_cons]
 omega
structure Sea (L:List (Str × Str × Bool)) (a:Str) (F W:List Str):Prop where
 st:a ∈ F
 rc:∀ x ∈ F,Rch L a x
 wf:∀ x ∈ W,x ∈ F
def Closed (L:List (Str × Str × Bool)) (F W:List Str) (but:Str→Prop):Prop:=∀ k ∈ L,k.1 ∈ F→k.1 ∉ W→¬ but k.1→k.2.1 ∈ F
theorem sea_end {L:List (Str × Str × Bool)} {a:Str} {F:List Str} (s:Sea L a F []) (c:Closed L F [] fun _ => False) (x:Str):x ∈ F↔Rch L a x:=by
 constructor
 ·exact s.rc x
 ·intro h
  induction h with
  | refl => exact s.st
  | step h m ih => exact c _ m ih (by simp) id
theorem reached_wp {L:List (Str × Str × Bool)} {ll:Nat} {a:Str} {S:Sto} {P:PV→Sto→Prop} {R:Str→PV→Sto→Prop} (e:S[ll]? = some (.lst (L.map lkP))) (hl:L.length ≤ 100000) (h:∀ n ks S',S'[n]? = some (.dct (setKV ks))→(∀ x,x ∈ ks↔Rch L a x)→Keep [] S S'→S.length ≤ n→P (.loc n) S'):wp (m_q4 [.loc ll,.str a] S) P R:=by
 unfold m_q4
 rw [callS_wp]
 simp [startE,-zq0,-zq1,-zq2,-zq3,-zq4,-zq5,-zq6]
 refine newD_wp ?_
 intro d S1 e1 k1 g1
 have lk1:=k1.1
 simp [-zq0,-zq1,-zq2,-zq3,-zq4,-zq5,-zq6]
 refine disp_wp (kvs:=setKV [a]) e1 (by rfl) (by simp [setKV]) ?_
 have e1':(S1.set d (.dct (mergeP [] (setKV [a]))))[d]? = some (.dct (setKV [a])):=by
  rw [set_get e1]; rfl
 have kd:Keep [d] S1 (S1.set d (.dct (mergeP [] (setKV [a])))):=.set (by simp)
 generalize S1.set d (.dct (mergeP [] (setKV [a]))) = S2 at e1' kd ⊢
 have k02:Keep [] S S2:=(((k1.mono (M':=[d]) (by simp)).trans kd)).mono (by intro x hx hlt; simp at hx; omega)
 simp [-zq0,-zq1,-zq2,-zq3,-zq4,-zq5,-zq6]
 refine lst_wp (by simp) ?_
 intro w S3 e3 k3 g3
 have lk3:=k3.1
 simp [-zq0,-zq1,-zq2,-zq3,-zq4,-zq5,-zq6]
 have e13:=k3.get e1' (by simp)
 have e03:=(k02.trans k3).get e (by simp)
 have hdl:=lt_of_get e1'
 have hlS:=lt_of_get e
 have hun:∀ F,unmet L F ≤ L.length:=fun F => List.length_filter_le _ _
 have hdw:d ≠ w:=by omega
 refine while_wp (m:=1 + L.length) (fun m τ S' => ∃ F W,(∃ x4 x5 x6 x7,τ = [some (.loc ll),some (.str a),some (.loc d),some (.loc w),x4,x5,x6,x7])∧S'[d]? = some (.dct (setKV F))∧S'[w]? = some (.lst (W.map PV.str))∧Sea L a F W∧Closed L F W (fun _ => False)∧W.length + unmet L F ≤ m∧F.length + unmet L F ≤ L.length + 1∧W.length ≤ F.length∧Keep [d,w] S3 S') ⟨[a],[a],⟨_,_,_,_,rfl⟩,e13,e3,⟨by simp,fun x hx => by simp at hx; subst hx; exact .refl _,by simp⟩,fun k _ h1 h2 => absurd h1 h2,by have:=hun [a]; simp; omega,by have:=hun [a]; simp; omega,Nat.le_refl _,.refl⟩ ?_
 rintro m τ S4 C J ⟨F,W,⟨x4,x5,x6,x7,rfl⟩,eF,eW,sea,cl,hm,hF,hWF,k4⟩ hT hFf hJ
 simp [-zq0,-zq1,-zq2,-zq3,-zq4,-zq5,-zq6]
 refine lst_wp (by simp) ?_
 intro n5 S5 e5 k5 g5
 have lk5:=k5.1
 have eF5:=k5.get eF (by simp)
 have eW5:=k5.get eW (by simp)
 simp [eW5,e5,-zq0,-zq1,-zq2,-zq3,-zq4,-zq5,-zq6]
 by_cases hWc:W = []
 ·subst hWc
  simp [-zq0,-zq1,-zq2,-zq3,-zq4,-zq5,-zq6]
  refine hFf S5 ?_
  simp [-zq0,-zq1,-zq2,-zq3,-zq4,-zq5,-zq6]
  refine h d F S5 eF5 (sea_end sea cl) ?_ (by omega)
  exact (((k02.trans k3).mono (M':=[d,w]) (by simp)).trans (k4.trans (k5.mono (by simp)))).mono (by intro x hx hlt; simp at hx; omega)
 obtain ⟨W0,y,rfl⟩:∃ W0 y,W = W0 ++ [y]:=⟨W.dropLast,W.getLast hWc,(List.dropLast_concat_getLast hWc).symm⟩
 have hemp:(!((W0 ++ [y]).map PV.str).isEmpty) = true:=by simp
 have hgl:((W0 ++ [y]).map PV.str)[((W0 ++ [y]).map PV.str).length - 1]? = some (PV.str y):=by simp
 have hdl2:((W0 ++ [y]).map PV.str).dropLast = W0.map PV.str:=by simp
 have hyF:=sea.wf y (by simp)
 rw [show (!(W0 ++ [y]).isEmpty) = true by simp]
 refine hT S5 ?_
 have hpop:popP (.loc w) [] S5 = some (.str y,S5.set w (.lst (W0.map PV.str))):=by
  rw [popP_loc,eW5]
  simp only [hgl,hdl2,Option.map_some]
 simp [eW5,-zq0,-zq1,-zq2,-zq3,-zq4,-zq5,-zq6]
 have kw:Keep [w] S5 (S5.set w (.lst (W0.map PV.str))):=.set (by simp)
 have eW6:=set_get (o:=.lst (W0.map PV.str)) eW5
 generalize S5.set w (.lst (W0.map PV.str)) = S6 at kw eW6 ⊢
 have eF6:=kw.get eF5 (by simp [hdw])
 have k36:Keep [d,w] S3 S6:=(k4.trans (k5.mono (by simp))).trans (kw.mono (by simp))
 have e6:=k36.get e03 (by simp; omega)
 simp [e6,-zq0,-zq1,-zq2,-zq3,-zq4,-zq5,-zq6]
 have hml:(W0 ++ [y]).length = W0.length + 1:=by simp
 rw [hml] at hm hWF
 refine forM_wp lkP (fun dn τ S' => ∃ F W,(∃ x5 x6 x7,τ = [some (.loc ll),some (.str a),some (.loc d),some (.loc w),some (.str y),x5,x6,x7])∧S'[d]? = some (.dct (setKV F))∧S'[w]? = some (.lst (W.map PV.str))∧Sea L a F W∧y ∈ F∧Closed L F W (fun x => x = y)∧(∀ k ∈ dn,k.1 = y→k.2.1 ∈ F)∧W.length + 1 + unmet L F ≤ m∧F.length + unmet L F ≤ L.length + 1∧W.length ≤ F.length∧Keep [d,w] S3 S')
  ⟨F,W0,⟨_,_,_,rfl⟩,eF6,eW6,⟨sea.st,sea.rc,fun x hx => sea.wf x (by simp [hx])⟩,hyF,fun k hk h1 h2 h3 => cl k hk h1 (by simp; exact ⟨h2,h3⟩) id,by simp,by omega,hF,by omega,k36⟩ ?_ ?_
 ·rintro dn ⟨ka,kb,kc⟩ rest τ S7 J2 hL ⟨F7,W7,⟨x5,x6,x7,rfl⟩,eF7,eW7,sea7,hy7,cl7,hd7,hm7,hF7,hW7,k7⟩ hJ2
  have hkL:(ka,kb,kc) ∈ L:=by rw [hL]; simp
  have e7:=k7.get e03 (by simp; omega)
  refine ⟨by simp [e7],_,rfl,?_⟩
  have hin:=setKV_in (x:=kb) eF7
  have stay:(ka = y→kb ∈ F7)→J2 [some (.loc ll),some (.str a),some (.loc d),some (.loc w),some (.str y),some (.str ka),some (.str kb),some (.bl kc)] S7:=fun hs =>
   hJ2 _ _ ⟨F7,W7,⟨_,_,_,rfl⟩,eF7,eW7,sea7,hy7,cl7,fun q hq hqy => by
    rcases List.mem_append.mp hq with hq | hq
    ·exact hd7 q hq hqy
    ·simp at hq; subst hq; exact hs hqy,hm7,hF7,hW7,k7⟩
  by_cases hky:ka = y
  ·subst hky
   by_cases hkF:kb ∈ F7
   ·rw [decide_eq_true hkF] at hin
    simp [hin,-zq0,-zq1,-zq2,-zq3,-zq4,-zq5,-zq6]
    exact stay fun _ => hkF
   ·rw [decide_eq_false hkF] at hin
    have hun7:unmet L (F7 ++ [kb]) + 1 ≤ unmet L F7:=unmet_new hkL hkF
    have hlen:(setKV F7).length < 16777216:=by simp [setKV]; omega
    simp [hin,eF7,setKV_put,hkF,hlen,-zq0,-zq1,-zq2,-zq3,-zq4,-zq5,-zq6]
    have kF:Keep [d] S7 (S7.set d (.dct (setKV (F7 ++ [kb])))):=.set (by simp)
    have eF8:=set_get (o:=.dct (setKV (F7 ++ [kb]))) eF7
    generalize S7.set d (.dct (setKV (F7 ++ [kb]))) = S8 at kF eF8 ⊢
    have eW8:=kF.get eW7 (by simp; omega)
    simp [eW8,-zq0,-zq1,-zq2,-zq3,-zq4,-zq5,-zq6]
    refine ⟨by omega,?_⟩
    have eW9:=set_get (o:=.lst (W7.map PV.str ++ [.str kb])) eW8
    have kW:Keep [w] S8 (S8.set w (.lst (W7.map PV.str ++ [.str kb]))):=.set (by simp)
    generalize S8.set w (.lst (W7.map PV.str ++ [.str kb])) = S9 at kW eW9 ⊢
    refine hJ2 _ _ ⟨F7 ++ [kb],W7 ++ [kb],⟨_,_,_,rfl⟩,kW.get eF8 (by simp; omega),by rw [eW9]; simp,⟨by simp [sea7.st],fun x hx => ?_,fun x hx => ?_⟩,by simp [hy7],fun q hq h1 h2 h3 => ?_,fun q hq hqy => ?_,by simp; omega,by simp; omega,by simp; omega,k7.trans ((kF.mono (by simp)).trans (kW.mono (by simp)))⟩
    ·rcases List.mem_append.mp hx with hx | hx
     ·exact sea7.rc x hx
     ·simp at hx; subst hx
      exact .step (sea7.rc _ hy7) hkL
    ·rcases List.mem_append.mp hx with hx | hx
     ·exact List.mem_append_left _ (sea7.wf x hx)
     ·exact List.mem_append_right _ hx
    ·simp only [List.mem_append,not_or,List.mem_singleton] at h1 h2
     have h1:q.1 ∈ F7:=h1.elim id fun z => absurd z h2.2
     exact List.mem_append_left _ (cl7 q hq h1 h2.1 h3)
    ·rcases List.mem_append.mp hq with hq | hq
     ·exact List.mem_append_left _ (hd7 q hq hqy)
     ·simp at hq; subst hq; simp
  ·simp [hky,-zq0,-zq1,-zq2,-zq3,-zq4,-zq5,-zq6]
   exact stay fun z => absurd z hky
 ·rintro τ S7 ⟨F7,W7,⟨x5,x6,x7,rfl⟩,eF7,eW7,sea7,hy7,cl7,hd7,hm7,hF7,hW7,k7⟩
  have e7:=k7.get e03 (by simp; omega)
  refine ⟨by simp [e7],?_⟩
  refine hJ (m - 1) _ _ (by omega) ⟨F7,W7,⟨_,_,_,_,rfl⟩,eF7,eW7,sea7,fun k hk h1 h2 _ => ?_,by omega,hF7,hW7,k7⟩
  by_cases hky:k.1 = y
  ·exact hd7 k hk hky
  ·exact cl7 k hk h1 h2 hky
end K59
namespace K59
open PySem PySem.Spec PyProof.Rows L2 PL RU RQ
open Classical
structure Fits (rs:List Rul):Prop where
 a:(allParts rs).length ≤ 100000
 b:∀ r ∈ rs,r.2.length ≤ 1600
 c:∀ r ∈ rs,∀ p ∈ parts r,p.2.length ≤ 10000
theorem allParts_rs (rs:List Rul):rs.length ≤ (allParts rs).length:=by
 induction rs with
 | nil => simp
 | cons r rs ih => simp [allParts,parts] at ih ⊢; omega
theorem links_len (rs:List Rul):(links rs).length ≤ (allParts rs).length:=by
 have:∀ qs:List Rul,(qs.flatMap (linkR rs)).length ≤ (allParts qs).length:=by
  intro qs
  induction qs with
  | nil => simp
  | cons q qs ih =>
   have:=linkR_len rs q
   simp [allParts,parts] at ih ⊢; omega
 exact this rs
theorem any_map {α : Type} (p : α→Bool) (l:List α):(l.map p).any id = l.any p:=by
 induction l with
 | nil => rfl
 | cons a l ih => simp only [List.map_cons,List.any_cons,ih,id]
theorem look_wp {rs:List Rul} {p:PV} {S:Sto} {P:PV→Sto→Prop} {R:Str→PV→Sto→Prop} (hp:SqAt S p (rs.map rulP)) (hf:Fits rs) (h:fault rs = none→∀ S',Keep [] S S'→P .non S') (hr:∀ w,fault rs = some w→∀ S',Keep [] S S'→R (Str.ofString "NoRules") (.str w) S'):wp (m_q35 [p] S) P R:=by
 unfold m_q35
 rw [callS_wp]
 have hrl:=allParts_rs rs
 have ha:=hf.a
 obtain ⟨g,hg⟩:=hp.itr
 have hg0:=fun S' k => (hg [] S' k (by simp)).1
 have hok:=fun S' k => (hg [] S' k (by simp)).2
 simp [startE,hg0 S .refl,-zq0,-zq1,-zq2,-zq3,-zq4,-zq5,-zq6]
 refine acc_map rulP (fun r => PV.bl (rs_ROOMS.any fun q => decide (q.1 = r.1.1))) (xs:=rs) (hok S .refl) (by simp; omega) (fun r hrm acc J hl hJ => ⟨_,rfl,?_⟩) ?_
 ·simp [wipeE,stepE_wp,atmP,hl,-zq0,-zq1,-zq2,-zq3,-zq4,-zq5,-zq6]
  exact hJ
 refine new_wp ?_
 intro n1 S1 e1 k1 g1
 have lk1:=k1.1
 rw [List.nil_append] at e1
 obtain ⟨bs,hb1,hb2⟩:∃ bs,boolsP (rs.map fun r => PV.bl (rs_ROOMS.any fun q => decide (q.1 = r.1.1))) = some bs∧(bs.any id = true↔∃ r ∈ rs,IsRoom r.1.1):=by
  refine ⟨_,boolsP_map (fun r:Rul => rs_ROOMS.any fun q => decide (q.1 = r.1.1)) rs,?_⟩
  rw [any_map,List.any_eq_true]
  refine exists_congr fun r => and_congr_right fun _ => ?_
  rw [List.any_eq_true]
  unfold IsRoom
  rw [rooms_eq]
  simp
 by_cases c1:∃ r ∈ rs,IsRoom r.1.1
 ·have hb3:=hb2.mpr c1
  simp [e1,hb1,hb3,-zq0,-zq1,-zq2,-zq3,-zq4,-zq5,-zq6]
  exact hr _ (if_pos c1) S1 k1
 have hb3:bs.any id = false:=Bool.eq_false_iff.mpr fun z => c1 (hb2.mp z)
 simp [e1,hb1,hb3,-zq0,-zq1,-zq2,-zq3,-zq4,-zq5,-zq6]
 refine is_many_wp (hp.keep k1 (by simp)) ha ?_
 intro S2 k2
 have f1:fault rs = if Many rs then some (Str.ofString "many") else if ∃ r ∈ rs,Loose r then some (Str.ofString "loose") else if Levels rs then some (Str.ofString "levels") else none:=if_neg c1
 have k02:=k1.trans k2
 by_cases c2:Many rs
 ·simp [c2,-zq0,-zq1,-zq2,-zq3,-zq4,-zq5,-zq6]
  exact hr _ (by rw [f1,if_pos c2]) S2 k02
 simp [c2,-zq0,-zq1,-zq2,-zq3,-zq4,-zq5,-zq6]
 rw [if_neg c2] at f1
 simp [hg0 S2 k02,-zq0,-zq1,-zq2,-zq3,-zq4,-zq5,-zq6]
 refine accK_wp rulP (fun r => PV.bl (decide (Loose r))) (xs:=rs) (fun S' k => hok S' (k02.trans k)) (by simp; omega) (fun r hrm acc S3 J hl k3 hJ => ⟨_,rfl,?_⟩) ?_
 ·simp [wipeE,stepE_wp,-zq0,-zq1,-zq2,-zq3,-zq4,-zq5,-zq6]
  refine is_loose_wp (hf.c r hrm) (hf.b r hrm) ?_
  intro S4 k4
  simp [-zq0,-zq1,-zq2,-zq3,-zq4,-zq5,-zq6]
  exact ⟨hl,hJ S4 (k3.trans k4)⟩
 intro S3 k3
 refine new_wp ?_
 intro n4 S4 e4 k4 g4
 have lk4:=k4.1
 rw [List.nil_append] at e4
 have k04:=k02.trans (k3.trans k4)
 obtain ⟨bs,hb1,hb2⟩:∃ bs,boolsP (rs.map fun r => PV.bl (decide (Loose r))) = some bs∧(bs.any id = true↔∃ r ∈ rs,Loose r):=by
  refine ⟨_,boolsP_map (fun r:Rul => decide (Loose r)) rs,?_⟩
  rw [any_map,List.any_eq_true]
  simp
 by_cases c3:∃ r ∈ rs,Loose r
 ·have hb3:=hb2.mpr c3
  simp [e4,hb1,hb3,-zq0,-zq1,-zq2,-zq3,-zq4,-zq5,-zq6]
  exact hr _ (by rw [f1,if_pos c3]) S4 k04
 have hb3:bs.any id = false:=Bool.eq_false_iff.mpr fun z => c3 (hb2.mp z)
 simp [e4,hb1,hb3,-zq0,-zq1,-zq2,-zq3,-zq4,-zq5,-zq6]
 rw [if_neg c3] at f1
 refine links_of_wp (hp.keep k04 (by simp)) ha ?_
 intro n5 S5 e5 k5 g5
 have lk5:=k5.1
 have k05:=k04.trans k5
 have hll:=links_len rs
 simp [e5,-zq0,-zq1,-zq2,-zq3,-zq4,-zq5,-zq6]
 refine accK_wp lkP (fun k => PV.bl (k.2.2 && decide (Rch (links rs) k.2.1 k.1))) (xs:=links rs) (fun S' k => by simp; exact k.get e5 (by simp)) (by simp; omega) (fun k hkm acc S6 J hl k6 hJ => ⟨_,rfl,?_⟩) ?_
 ·obtain ⟨ka,kb,kc⟩:=k
  cases kc with
  | false =>
   have hJ:=hJ S6 k6
   simp [wipeE,stepE_wp,-zq0,-zq1,-zq2,-zq3,-zq4,-zq5,-zq6]
   exact ⟨hl,by simpa using hJ⟩
  | true =>
   simp [wipeE,stepE_wp,-zq0,-zq1,-zq2,-zq3,-zq4,-zq5,-zq6]
   refine reached_wp (k6.get e5 (by simp)) (by omega) ?_
   intro n7 ks S7 e7 hks k7 g7
   have hin:inB (.str ka) (.loc n7) S7 = some (decide (Rch (links rs) kb ka)):=by
    rw [setKV_in e7]
    congr 1
    exact decide_eq_decide.mpr (hks ka)
   have hJ:=hJ S7 (k6.trans k7)
   simp [hin,-zq0,-zq1,-zq2,-zq3,-zq4,-zq5,-zq6]
   exact ⟨hl,by simpa using hJ⟩
 intro S6 k6
 refine new_wp ?_
 intro n7 S7 e7 k7 g7
 have lk7:=k7.1
 rw [List.nil_append] at e7
 have k07:=k05.trans (k6.trans k7)
 obtain ⟨bs,hb1,hb2⟩:∃ bs,boolsP ((links rs).map fun k => PV.bl (k.2.2 && decide (Rch (links rs) k.2.1 k.1))) = some bs∧(bs.any id = true↔Levels rs):=by
  refine ⟨_,boolsP_map (fun k:Str × Str × Bool => k.2.2 && decide (Rch (links rs) k.2.1 k.1)) (links rs),?_⟩
  rw [any_map,List.any_eq_true]
  unfold Levels
  refine exists_congr fun k => and_congr_right fun _ => ?_
  rw [Bool.and_eq_true,decide_eq_true_iff]
 by_cases c4:Levels rs
 ·have hb3:=hb2.mpr c4
  simp [e7,hb1,hb3,-zq0,-zq1,-zq2,-zq3,-zq4,-zq5,-zq6]
  exact hr _ (by rw [f1,if_pos c4]) S7 k07
 have hb3:bs.any id = false:=Bool.eq_false_iff.mpr fun z => c4 (hb2.mp z)
 simp [e7,hb1,hb3,-zq0,-zq1,-zq2,-zq3,-zq4,-zq5,-zq6]
 exact h (by rw [f1,if_neg c4]) S7 k07
end K59
namespace K59
open PySem PySem.Spec PyProof.Rows L2 PL RU RQ
open Classical
theorem nons_tup {β : Type} {f : β→PV} (hf:∀ b,∃ xs,f b = .tup xs):∀ l:List β,nonsP (l.map f) = some false
 | [] => rfl
 | b :: l => by
  obtain ⟨xs,hx⟩:=hf b
  simp only [List.map_cons,hx,nonsP,nons_tup hf l]
theorem read_rules_wp {t:Str} {rs:List Rul} {S:Sto} {P:PV→Sto→Prop} {R:Str→PV→Sto→Prop} (hl:t.length ≤ 10000) (hr:rdRs t = some rs) (hf:Fits rs) (hn:fault rs = none) (h:∀ S',Keep [] S S'→P (.tup (rs.map rulP)) S'):wp (m_q7 [.str t] S) P R:=by
 unfold m_q7
 rw [callS_wp]
 have l16:t.length ≤ 16777216:=by omega
 have tail:∀ S1,Keep [] S S1→wpS ((seqS (ifS (blM (binM noneInTP (cV .non) (vV 1))) (raiseS "NoText" (vV 0)) nopS)
   (seqS (tryS [("NoRules",true)] (exprS (callD m_q35 (aC (vV 1) aN))) fun _ _ => neverS)
   (retS (vV 1)))) [some (.str t),some (.tup (rs.map rulP)),none] S1) (nonK P) P (PL.dropK R):=fun S1 k1 => by
  have hnn:=nons_tup rul_tup rs
  simp [hnn,-zq0,-zq1,-zq2,-zq3,-zq4,-zq5,-zq6]
  refine look_wp (.inl rfl) hf (fun _ S2 k2 => ?_) (fun w hw => by rw [hn] at hw; cases hw)
  simp [-zq0,-zq1,-zq2,-zq3,-zq4,-zq5,-zq6]
  exact h S2 (k1.trans k2)
 by_cases hm:t = Str.ofString "-"
 ·have hr':=hr
  unfold rdRs at hr'
  rw [if_pos hm] at hr'
  cases hr'
  simp [startE,-e_seqS,-zq0,-zq1,-zq2,-zq3,-zq4,-zq5,-zq6]
  refine seq_split (fun τ S' => Keep [] S S'∧τ = [some (.str t),some (.tup []),none]) (by simp [hm,-zq0,-zq1,-zq2,-zq3,-zq4,-zq5,-zq6]; exact .refl) ?_
  rintro τ S1 ⟨k1,rfl⟩
  exact tail S1 k1
 ·have hr':=hr
  unfold rdRs at hr'
  rw [if_neg hm] at hr'
  simp [startE,-e_seqS,-zq0,-zq1,-zq2,-zq3,-zq4,-zq5,-zq6]
  refine seq_split (fun τ S' => Keep [] S S'∧τ = [some (.str t),some (.tup (rs.map rulP)),none]) ?_ ?_
  ·simp [hm,-zq0,-zq1,-zq2,-zq3,-zq4,-zq5,-zq6]
   refine split_wp (by decide +kernel) (by omega) rfl ?_
   intro n1 S1 e1 k1 g1
   have lk1:=k1.1
   have hs1:=(split_lens (y:=Str.ofString "; ") hl).1
   have hs2:=(split_lens (y:=Str.ofString "; ") hl).2 (by decide +kernel)
   simp [e1,-zq0,-zq1,-zq2,-zq3,-zq4,-zq5,-zq6]
   refine accK_wp PV.str (fun w => oP rulP (rdRu w)) (xs:=Txt.split t (Str.ofString "; ")) (fun S' k => by simp; exact k.get e1 (by simp)) (by simp; omega) (fun w hwm acc S4 J hl k4 hJ => ⟨_,rfl,?_⟩) ?_
   ·simp [wipeE,stepE_wp,-zq0,-zq1,-zq2,-zq3,-zq4,-zq5,-zq6]
    refine ruleG_wp (hs1 w hwm) ?_
    intro S5 k5
    simp [-zq0,-zq1,-zq2,-zq3,-zq4,-zq5,-zq6]
    exact ⟨hl,hJ S5 (k4.trans k5)⟩
   intro S4 k4
   refine new_wp ?_
   intro n5 S5 e5 k5 g5
   have lk5:=k5.1
   rw [List.nil_append] at e5
   rw [oP_some (f:=rulP) hr'] at e5
   simp [e5,-zq0,-zq1,-zq2,-zq3,-zq4,-zq5,-zq6]
   exact (k1.trans k4).trans k5
  rintro τ S1 ⟨k1,rfl⟩
  exact tail S1 k1
end K59
namespace K59
open PySem PySem.Spec PyProof.Rows L2 PL
theorem alike_leaf (n:Nat) {d e p q:PV} {S:Sto} {P:PV→Sto→Prop} {R:Str→PV→Sto→Prop} (hp:Sn S d p) (hq:Sn S e q) (ha:AD 0 e) (h1:d = e→P (.bl true) S) (h0:d ≠ e→P (.bl false) S):wp (m_q10 (n + 1) [p,q] S) P R:=by
 unfold m_q10
 rw [callS_wp]
 cases e <;> simp only [Sn] at hq <;> (try subst hq) <;> (try (simp [AD] at ha; done)) <;> cases d <;> simp only [Sn] at hp <;> (try subst hp) <;> (try (exact hp.elim))
 all_goals (try obtain ⟨_,rfl,_⟩:=hp)
 all_goals (try obtain ⟨_,_,rfl,hp1,_⟩:=hp)
 all_goals (simp [startE,isi_loc_lst, *] at h1 h0 ⊢)
 all_goals (first | assumption | skip)
 all_goals exact dec_wp h1 h0
theorem alike_loop {n:Nat} {ds es ps qs:List PV} {p q:PV} {S:Sto} {N:En→Sto→Prop} {T:PV→Sto→Prop} {R:Str→PV→En→Sto→Prop}
  (ih:∀ (d e p q:PV) (S:Sto) (P:PV→Sto→Prop) (R:Str→PV→Sto→Prop),Sn S d p→Sn S e q→AD n e→(d = e→P (.bl true) S)→(d ≠ e→P (.bl false) S)→wp (m_q10 (n + 1) [p,q] S) P R)
  (hp:∀ i:Int,getP p (.int i) S = (atI ps i).map fun v => (v,S)) (hq:∀ i:Int,getP q (.int i) S = (atI qs i).map fun v => (v,S)) (sp:SnL S ds ps) (sq:SnL S es qs) (ha:ADL n es) (hl:ds.length = es.length)
  (h1:ds = es→∀ τ,N τ S) (h0:ds ≠ es→T (.bl false) S) :
  wpS (forL ⟨rngI 0 (qs.length:Int),[]⟩ (gN 2) (ifS (notM (truM (callD (m_q10 (n + 1)) (aC (binM getP (vV 0) (vV 2)) (aC (binM getP (vV 1) (vV 2)) aN))))) (retS (cV (.bl false))) nopS) (rngI 0 (qs.length:Int)) [some p,some q,none] S) N T R:=by
 have lp:=sp.length
 have lq:=sq.length
 refine forR_wp (fun i τ S' => S' = S∧(∃ x,τ = [some p,some q,x])∧ds.take i = es.take i) ⟨rfl,⟨none,rfl⟩,by simp⟩ ?_ ?_
 ·rintro i τ S' J hi ⟨rfl,⟨x,rfl⟩,ht⟩ hJ
  refine ⟨by simp,_,rfl,?_⟩
  obtain ⟨a,hia⟩:∃ a,ps[i]? = some a:=⟨_,List.getElem?_eq_getElem (by omega)⟩
  obtain ⟨b,hib⟩:∃ b,qs[i]? = some b:=⟨_,List.getElem?_eq_getElem (by omega)⟩
  obtain ⟨a',ha1,ha2⟩:=sp.get hia
  obtain ⟨b',hb1,hb2⟩:=sq.get hib
  have ga:atI ps (i:Int) = some a:=(PL.atI_get (by omega)).trans hia
  have gb:atI qs (i:Int) = some b:=(PL.atI_get (by omega)).trans hib
  simp [hp,hq,ga,gb]
  refine ih a' b' a b S' _ _ ha2 hb2 (ADL_iff.mp ha b' (List.mem_of_getElem? hb1)) (fun e => ?_) (fun e => ?_)
  ·subst e
   simp
   refine hJ _ _ ⟨rfl,⟨_,rfl⟩,?_⟩
   rw [List.take_succ,List.take_succ,ht,ha1,hb1]
  ·simp
   refine h0 fun z => e ?_
   subst z
   rw [ha1] at hb1
   cases hb1; rfl
 ·rintro τ S' ⟨rfl,⟨x,rfl⟩,ht⟩
  refine ⟨by simp,h1 ?_ _⟩
  rw [List.take_of_length_le (by omega),List.take_of_length_le (by omega)] at ht
  exact ht
theorem alike_wp:∀ (n:Nat) (d e p q:PV) (S:Sto) (P:PV→Sto→Prop) (R:Str→PV→Sto→Prop),Sn S d p→Sn S e q→AD n e→(d = e→P (.bl true) S)→(d ≠ e→P (.bl false) S)→wp (m_q10 (n + 1) [p,q] S) P R:=by
 intro n
 induction n with
 | zero => intro d e p q S P R hp hq ha h1 h0; exact alike_leaf 0 hp hq ha h1 h0
 | succ n ih =>
  intro d e p q S P R hp hq ha h1 h0
  cases e with
  | non => exact alike_leaf _ hp hq (by simp [AD]) h1 h0
  | bl b => exact alike_leaf _ hp hq (by simp [AD]) h1 h0
  | int b => exact alike_leaf _ hp hq (by simp [AD]) h1 h0
  | str b => exact alike_leaf _ hp hq (by simp [AD]) h1 h0
  | fn _ _ _ => exact absurd ha (by simp [AD])
  | loc l => exact hq.elim
  | tup es =>
   obtain ⟨qs,rfl,sq⟩:=hq
   obtain ⟨hw,ha⟩:es.length ≤ 16777216∧ADL n es:=by simpa [AD] using ha
   have lq:=sq.length
   unfold m_q10
   rw [callS_wp]
   cases d <;> simp only [Sn] at hp <;> (try subst hp)
   case tup ds =>
    obtain ⟨ps,rfl,sp⟩:=hp
    have lp:=sp.length
    simp [startE] at h1 h0 ⊢
    refine ⟨fun hl => ⟨by unfold rngOk; omega,?_⟩,fun hl => h0 fun z => hl (by subst z; omega)⟩
    exact alike_loop ih (fun i => rfl) (fun i => rfl) sp sq ha (by omega) (fun e τ => by simpa using h1 e) h0
   case fls ds =>
    obtain ⟨l,ps,rfl,hll,sp⟩:=hp
    have h0:=h0 (by intro z; cases z)
    clear ih h1
    simp [startE,isi_loc_lst _ hll]
    exact h0
   all_goals (have h0:=h0 (by intro z; cases z); clear ih h1; simp [startE]; exact h0)
  | fls es =>
   obtain ⟨k,qs,rfl,hk,sq⟩:=hq
   obtain ⟨hw,ha⟩:es.length ≤ 16777216∧ADL n es:=by simpa [AD] using ha
   have lq:=sq.length
   unfold m_q10
   rw [callS_wp]
   cases d <;> simp only [Sn] at hp <;> (try subst hp)
   case tup ds =>
    obtain ⟨ps,rfl,sp⟩:=hp
    have h0:=h0 (by intro z; cases z)
    clear ih h1
    simp [startE,isi_loc_lst _ hk]
    exact h0
   case fls ds =>
    obtain ⟨l,ps,rfl,hll,sp⟩:=hp
    have lp:=sp.length
    simp [startE,isi_loc_lst _ hll,isi_loc_lst _ hk,hll,hk] at h1 h0 ⊢
    refine ⟨fun hl => ⟨by unfold rngOk; omega,?_⟩,fun hl => h0 fun z => hl (by subst z; omega)⟩
    exact alike_loop ih (fun i => by simp [hll]) (fun i => by simp [hk]) sp sq ha (by omega) (fun e τ => by simpa using h1 e) h0
   all_goals (have h0:=h0 (by intro z; cases z); clear ih h1; simp [startE,isi_loc_lst _ hk]; exact h0)
end K59
namespace K59
open PySem PySem.Spec PyProof.Rows L2 PL RU RQ
open Classical
theorem snL_of {S:Sto}:∀ {xs:List PV},(∀ x ∈ xs,Sn S x x)→SnL S xs xs
 | [],_ => rfl
 | x :: xs,h => ⟨x,xs,rfl,h x (by simp),snL_of fun y hy => h y (by simp [hy])⟩
theorem sn_tup {S:Sto} {xs:List PV} (h:∀ x ∈ xs,Sn S x x):Sn S (.tup xs) (.tup xs):=⟨xs,rfl,snL_of h⟩
theorem ad_tup {n:Nat} {xs:List PV} (hl:xs.length ≤ 16777216) (h:∀ x ∈ xs,AD n x):AD (n + 1) (.tup xs):=⟨hl,ADL_iff.mpr h⟩
theorem sn_trm (S:Sto) (t:Trm):Sn S t.pv t.pv:=by
 cases t <;> exact sn_tup fun x hx => by
  simp at hx
  rcases hx with rfl | rfl <;> rfl
theorem ad_trm (n:Nat) (t:Trm):AD (n + 1) t.pv:=by
 cases t <;> exact ad_tup (by simp) fun x hx => by
  simp at hx
  rcases hx with rfl | rfl <;> simp [AD]
theorem sn_trms (S:Sto) (ts:List Trm):Sn S (.tup (ts.map Trm.pv)) (.tup (ts.map Trm.pv)):=sn_tup fun x hx => by
 obtain ⟨t,_,rfl⟩:=List.mem_map.mp hx
 exact sn_trm S t
theorem ad_trms {n:Nat} {ts:List Trm} (h:ts.length ≤ 16777216):AD (n + 2) (.tup (ts.map Trm.pv)):=ad_tup (by simpa using h) fun x hx => by
 obtain ⟨t,_,rfl⟩:=List.mem_map.mp hx
 exact ad_trm n t
theorem sn_rul (S:Sto) (r:Rul):Sn S (rulP r) (rulP r):=sn_tup fun x hx => by
 simp at hx
 rcases hx with rfl | rfl
 ·exact sn_tup fun x hx => by
   simp at hx
   rcases hx with rfl | rfl
   ·rfl
   ·exact sn_trms S _
 ·exact sn_tup fun x hx => by
   obtain ⟨l,_,rfl⟩:=List.mem_map.mp hx
   exact sn_tup fun x hx => by
    simp at hx
    rcases hx with rfl | rfl | rfl
    ·rfl
    ·exact sn_trms S _
    ·rfl
theorem ad_rul {n:Nat} {r:Rul} (h1:∀ p ∈ parts r,p.2.length ≤ 16777216) (h2:r.2.length ≤ 16777216):AD (n + 5) (rulP r):=ad_tup (by simp) fun x hx => by
 simp at hx
 rcases hx with rfl | rfl
 ·exact ad_tup (by simp) fun x hx => by
   simp at hx
   rcases hx with rfl | rfl
   ·simp [AD]
   ·exact ad_trms (n:=n + 1) (h1 _ (by simp [parts]))
 ·exact ad_tup (by simpa using h2) fun x hx => by
   obtain ⟨l,hl,rfl⟩:=List.mem_map.mp hx
   exact ad_tup (by simp) fun x hx => by
    simp at hx
    rcases hx with rfl | rfl | rfl
    ·simp [AD]
    ·exact ad_trms (n:=n) (h1 (liA l) (List.mem_cons_of_mem _ (List.mem_map_of_mem hl)))
    ·simp [AD]
theorem alike_rules {rs:List Rul} {S:Sto} {P:PV→Sto→Prop} {R:Str→PV→Sto→Prop} (hf:Fits rs) (h:P (.bl true) S):wp (m_q10 14 [.tup (rs.map rulP),.tup (rs.map rulP)] S) P R:=by
 have hl:=allParts_rs rs
 have ha:=hf.a
 refine alike_wp 13 (.tup (rs.map rulP)) (.tup (rs.map rulP)) _ _ S P R (sn_tup fun x hx => ?_) (sn_tup fun x hx => ?_) (ad_tup (n:=12) (by simp; omega) fun x hx => ?_) (fun _ => h) (fun z => absurd rfl z)
 ·obtain ⟨r,_,rfl⟩:=List.mem_map.mp hx
  exact sn_rul S r
 ·obtain ⟨r,_,rfl⟩:=List.mem_map.mp hx
  exact sn_rul S r
 ·obtain ⟨r,hr,rfl⟩:=List.mem_map.mp hx
  exact ad_rul (n:=7) (fun p hp => by have:=hf.c r hr p hp; omega) (by have:=hf.b r hr; omega)
theorem alike_str {x:Str} {S:Sto} {P:PV→Sto→Prop} {R:Str→PV→Sto→Prop} (h:P (.bl true) S):wp (m_q10 14 [.str x,.str x] S) P R :=
 alike_wp 13 (.str x) (.str x) _ _ S P R rfl rfl (by simp [AD]) (fun _ => h) (fun z => absurd rfl z)
end K59
namespace K59
open PySem PySem.Spec PyProof.Rows L2 PL RU RQ
open Classical
theorem join_sum (s:Str) (ys:List Str):(ys.map (·.length)).sum + ys.length * s.length ≤ (Txt.join s ys).length + s.length:=by
 have h:=PySem.size_glued s ys
 have e:(Txt.join s ys).length = (ys.map (·.length)).sum + (ys.length - 1) * s.length:=h
 rw [e]
 have:ys.length * s.length ≤ (ys.length - 1) * s.length + s.length:=by
  cases ys with
  | nil => simp
  | cons y ys => simp [Nat.succ_mul]
 omega
theorem mem_sum' {n:Nat}:∀ {l:List Nat},n ∈ l→n ≤ l.sum
 | [],h => by cases h
 | a :: l,h => by
  rw [List.sum_cons]
  rcases List.mem_cons.mp h with rfl | h
  ·omega
  ·have:=mem_sum' h; omega
theorem join_mem {s w:Str} {ys:List Str} (h:w ∈ ys):w.length ≤ (Txt.join s ys).length:=by
 have h1:=PySem.size_glued s ys
 have e:(Txt.join s ys).length = (ys.map (·.length)).sum + (ys.length - 1) * s.length:=h1
 have:w.length ≤ (ys.map (·.length)).sum:=mem_sum' (List.mem_map_of_mem h)
 omega
theorem join_num {s:Str} {ys:List Str} (h:1 ≤ s.length):ys.length ≤ (Txt.join s ys).length + 1:=by
 have h1:=PySem.size_glued s ys
 have e:(Txt.join s ys).length = (ys.map (·.length)).sum + (ys.length - 1) * s.length:=h1
 have:ys.length - 1 ≤ (ys.length - 1) * s.length:=Nat.le_mul_of_pos_right _ h
 omega
theorem slens:(Str.ofString "?").length = 1∧(Str.ofString "'").length = 1∧(Str.ofString " ").length = 1∧(Str.ofString ", ").length = 2∧(Str.ofString "; ").length = 2∧(Str.ofString " if ").length = 4∧(Str.ofString "not ").length = 4∧(Str.ofString "").length = 0:=by decide +kernel
theorem show_term_wp {t:Trm} {S:Sto} {P:PV→Sto→Prop} {R:Str→PV→Sto→Prop} (ok:TmOk t) (hl:(tmT t).length ≤ 1000000) (h:P (.str (tmT t)) S):wp (m_q15 [t.pv] S) P R:=by
 unfold m_q15
 rw [callS_wp]
 obtain ⟨q1,q2,_⟩:=slens
 cases t with
 | name x =>
  have e:(tmT (.name x)).length = 1 + x.length:=by show (Str.ofString "?" ++ x).length = _; rw [RU.app_len,q1]
  simp [startE,Trm.pv,q1,-zq0,-zq1,-zq2,-zq3,-zq4,-zq5,-zq6]
  exact ⟨by omega,h⟩
 | num i =>
  simp [startE,Trm.pv,log_60 (show SmI i from ok),-zq0,-zq1,-zq2,-zq3,-zq4,-zq5,-zq6]
  exact h
 | txt x =>
  have e0:(Str.ofString "'" ++ x).length = 1 + x.length:=by rw [RU.app_len,q2]
  have e:(tmT (.txt x)).length = 1 + x.length + 1:=by show (Str.ofString "'" ++ x ++ Str.ofString "'").length = _; rw [RU.app_len,e0,q2]
  have e':(Str.ofString "'" ++ x ++ Str.ofString "'").length = 1 + x.length + 1:=e
  have ee:∀ z:Str,Str.empty ++ z = z:=Str.empty_append
  have b1:x.length ≤ 16777216:=by omega
  have b2:1 + x.length ≤ 16777216:=by omega
  have b3:1 + x.length + 1 ≤ 16777216:=by omega
  simp [startE,Trm.pv,ee,q2,e0,e',b1,b2,b3,-zq0,-zq1,-zq2,-zq3,-zq4,-zq5,-zq6]
  exact h
theorem show_atom_wp {a:Atm} {S:Sto} {P:PV→Sto→Prop} {R:Str→PV→Sto→Prop} (ok:∀ t ∈ a.2,TmOk t) (hl:(atT a).length ≤ 1000000) (h:∀ S',Keep [] S S'→P (.str (atT a)) S'):wp (m_q20 [.str a.1,.tup (a.2.map Trm.pv)] S) P R:=by
 unfold m_q20
 rw [callS_wp]
 have hs:=join_sum (Str.ofString " ") (a.1 :: a.2.map tmT)
 have hn:=join_num (s:=Str.ofString " ") (ys:=a.1 :: a.2.map tmT) (by decide +kernel)
 have hj:Txt.join (Str.ofString " ") (a.1 :: a.2.map tmT) = atT a:=rfl
 rw [hj] at hs hn
 simp only [List.length_cons,List.length_map] at hn
 simp [startE,-zq0,-zq1,-zq2,-zq3,-zq4,-zq5,-zq6]
 refine lst_wp (by simp) ?_
 intro n S1 e1 k1 g1
 have lk1:=k1.1
 simp [-zq0,-zq1,-zq2,-zq3,-zq4,-zq5,-zq6]
 refine acc_map Trm.pv (fun t => PV.str (tmT t)) (xs:=a.2) (by simp) (by simp; omega) (fun t ht acc J hl hJ => ⟨_,rfl,?_⟩) ?_
 ·simp [wipeE,stepE_wp,-zq0,-zq1,-zq2,-zq3,-zq4,-zq5,-zq6]
  refine show_term_wp (ok t ht) ?_ ?_
  ·have:=join_mem (s:=Str.ofString " ") (w:=tmT t) (ys:=a.1 :: a.2.map tmT) (List.mem_cons_of_mem _ (List.mem_map_of_mem ht))
   rw [hj] at this
   omega
  ·simp [-zq0,-zq1,-zq2,-zq3,-zq4,-zq5,-zq6]
   exact ⟨hl,hJ⟩
 refine new_wp ?_
 intro n2 S2 e2 k2 g2
 have lk2:=k2.1
 rw [List.nil_append] at e2
 simp [-zq0,-zq1,-zq2,-zq3,-zq4,-zq5,-zq6]
 refine addL_wp (k2.get e1 (by simp)) e2 (by simp; omega) ?_
 intro n3 S3 e3 k3 g3
 have lk3:=k3.1
 have e3:S3[n3]? = some (.lst ((a.1 :: a.2.map tmT).map PV.str)):=by rw [e3]; simp
 have hsm:=strsP_map (a.1 :: a.2.map tmT)
 have slen:=slens.2.2.1
 have hs':((a.1 :: a.2.map tmT).map (·.length)).sum + (a.1 :: a.2.map tmT).length * (Str.ofString " ").length ≤ 16777216:=by omega
 generalize hys:a.1 :: a.2.map tmT = ys at e3 hsm hj hs'
 simp [e3,hsm,hs',hj,-zq0,-zq1,-zq2,-zq3,-zq4,-zq5,-zq6]
 exact h S3 ((k1.trans k2).trans k3)
theorem show_literal_wp {l:Lit} {S:Sto} {P:PV→Sto→Prop} {R:Str→PV→Sto→Prop} (ok:AtOk (liA l)) (hl:(liT l).length ≤ 1000000) (h:∀ S',Keep [] S S'→P (.str (liT l)) S'):wp (m_q5 [litP l] S) P R:=by
 unfold m_q5
 rw [callS_wp]
 obtain ⟨x,ts,b⟩:=l
 have q7:=slens.2.2.2.2.2.2.1
 cases b with
 | true =>
  simp [startE,litP,-zq0,-zq1,-zq2,-zq3,-zq4,-zq5,-zq6]
  exact show_atom_wp (a:=(x,ts)) ok.2 hl h
 | false =>
  have e:(liT (x,ts,false)).length = 4 + (atT (x,ts)).length:=by show (Str.ofString "not " ++ atT (x,ts)).length = _; rw [RU.app_len,q7]
  simp [startE,litP,-zq0,-zq1,-zq2,-zq3,-zq4,-zq5,-zq6]
  refine show_atom_wp (a:=(x,ts)) ok.2 (by omega) ?_
  intro S1 k1
  have b1:4 + (atT (x,ts)).length ≤ 16777216:=by omega
  simp [q7,b1,-zq0,-zq1,-zq2,-zq3,-zq4,-zq5,-zq6]
  exact h S1 k1
theorem show_rule_wp {r:Rul} {S:Sto} {P:PV→Sto→Prop} {R:Str→PV→Sto→Prop} (ok:RuOk r) (hl:(ruT r).length ≤ 1000000) (h:∀ S',Keep [] S S'→P (.str (ruT r)) S'):wp (m_q23 [rulP r] S) P R:=by
 unfold m_q23
 rw [callS_wp]
 obtain ⟨a,b⟩:=r
 have q6:=slens.2.2.2.2.2.1
 have q4:=slens.2.2.2.1
 simp [startE,rulP,atmP,-zq0,-zq1,-zq2,-zq3,-zq4,-zq5,-zq6]
 have hal:(atT a).length ≤ 1000000:=by
  unfold ruT at hl
  split at hl
  ·exact hl
  ·rw [RU.app_len,RU.app_len] at hl
   have hl:(atT a).length + _ + _ ≤ _:=hl
   omega
 refine show_atom_wp ok.1.2 hal ?_
 intro S1 k1
 cases hb:b with
 | nil =>
  subst hb
  simp [-zq0,-zq1,-zq2,-zq3,-zq4,-zq5,-zq6]
  exact h S1 k1
 | cons l0 b0 =>
  have hne:b ≠ []:=by rw [hb]; simp
  have hie:(b.map litP).isEmpty = false:=by rw [hb]; rfl
  rw [← hb]
  have e:ruT (a,b) = atT a ++ Str.ofString " if " ++ Txt.join (Str.ofString ", ") (b.map liT):=if_neg hne
  rw [e,RU.app_len,RU.app_len,q6] at hl
  have hs:=join_sum (Str.ofString ", ") (b.map liT)
  have hn:=join_num (s:=Str.ofString ", ") (ys:=b.map liT) (by decide +kernel)
  rw [List.length_map] at hn
  have b1:(atT a).length + (Str.ofString " if ").length ≤ 16777216:=by omega
  have hbn:¬ b = []:=hne
  simp [hbn,b1,-zq0,-zq1,-zq2,-zq3,-zq4,-zq5,-zq6]
  refine accK_wp litP (fun l => PV.str (liT l)) (xs:=b) (fun S' k => by simp) (by simp; omega) (fun l hlm acc S2 J hl2 k2 hJ => ⟨_,rfl,?_⟩) ?_
  ·simp [wipeE,stepE_wp,-zq0,-zq1,-zq2,-zq3,-zq4,-zq5,-zq6]
   refine show_literal_wp (ok.2 l hlm) ?_ ?_
   ·have:=join_mem (s:=Str.ofString ", ") (w:=liT l) (ys:=b.map liT) (List.mem_map_of_mem hlm)
    omega
   ·intro S3 k3
    simp [-zq0,-zq1,-zq2,-zq3,-zq4,-zq5,-zq6]
    exact ⟨hl2,hJ S3 (k2.trans k3)⟩
  intro S2 k2
  refine new_wp ?_
  intro n3 S3 e3 k3 g3
  have lk3:=k3.1
  have e3:S3[n3]? = some (.lst ((b.map liT).map PV.str)):=by rw [e3,List.nil_append,List.map_map]; rfl
  have hsm:=strsP_map (b.map liT)
  have hs':((b.map liT).map (·.length)).sum + (b.map liT).length * (Str.ofString ", ").length ≤ 16777216:=by omega
  have hab:(atT a ++ Str.ofString " if ").length = (atT a).length + 4:=by rw [RU.app_len,q6]
  have fin:=h S3 ((k1.trans k2).trans k3)
  rw [e] at fin
  generalize hys:b.map liT = ys at e3 hsm hs' hs hl fin
  have b2:(atT a).length + 4 + (Txt.join (Str.ofString ", ") ys).length ≤ 16777216:=by omega
  simp [e3,hsm,hs',hab,b2,-zq0,-zq1,-zq2,-zq3,-zq4,-zq5,-zq6]
  exact fin
theorem show_rules_wp {rs:List Rul} {S:Sto} {P:PV→Sto→Prop} {R:Str→PV→Sto→Prop} (ok:∀ r ∈ rs,RuOk r) (hl:(rsT rs).length ≤ 1000000) (h:∀ S',Keep [] S S'→P (.str (rsT rs)) S'):wp (m_q13 [.tup (rs.map rulP)] S) P R:=by
 unfold m_q13
 rw [callS_wp]
 have q5:=slens.2.2.2.2.1
 cases hrs:rs with
 | nil =>
  subst hrs
  simp [startE,-zq0,-zq1,-zq2,-zq3,-zq4,-zq5,-zq6]
  refine accK_wp rulP (fun r => PV.str (ruT r)) (xs:=[]) (fun S' k => by simp) (by simp) (fun l hlm => by cases hlm) ?_
  intro S1 k1
  refine new_wp ?_
  intro n2 S2 e2 k2 g2
  have lk2:=k2.1
  have e2:S2[n2]? = some (.lst []):=e2
  have hj:Txt.join (Str.ofString "; ") [] = Str.empty:=rfl
  have hz:truP (.str Str.empty) S2 = some false:=rfl
  simp [e2,strsP,hj,hz,-zq0,-zq1,-zq2,-zq3,-zq4,-zq5,-zq6]
  exact h S2 (k1.trans k2)
 | cons r0 rs0 =>
  have hne:rs ≠ []:=by rw [hrs]; simp
  have e:rsT rs = Txt.join (Str.ofString "; ") (rs.map ruT):=if_neg hne
  obtain ⟨c,l,hc,_⟩:=rs_head (rs:=rs0) (ok r0 (by rw [hrs]; simp))
  rw [← hrs] at hc ⊢
  have hp:0 < (Txt.join (Str.ofString "; ") (rs.map ruT)).length:=by rw [← ch_len,hc]; simp
  rw [e] at hl
  have hs:=join_sum (Str.ofString "; ") (rs.map ruT)
  have hn:=join_num (s:=Str.ofString "; ") (ys:=rs.map ruT) (by decide +kernel)
  rw [List.length_map] at hn
  simp [startE,-zq0,-zq1,-zq2,-zq3,-zq4,-zq5,-zq6]
  refine accK_wp rulP (fun r => PV.str (ruT r)) (xs:=rs) (fun S' k => by simp) (by simp; omega) (fun l hlm acc S2 J hl2 k2 hJ => ⟨_,rfl,?_⟩) ?_
  ·simp [wipeE,stepE_wp,-zq0,-zq1,-zq2,-zq3,-zq4,-zq5,-zq6]
   refine show_rule_wp (ok l hlm) ?_ ?_
   ·have:=join_mem (s:=Str.ofString "; ") (w:=ruT l) (ys:=rs.map ruT) (List.mem_map_of_mem hlm)
    omega
   ·intro S3 k3
    simp [-zq0,-zq1,-zq2,-zq3,-zq4,-zq5,-zq6]
    exact ⟨hl2,hJ S3 (k2.trans k3)⟩
  intro S2 k2
  refine new_wp ?_
  intro n3 S3 e3 k3 g3
  have lk3:=k3.1
  have e3:S3[n3]? = some (.lst ((rs.map ruT).map PV.str)):=by rw [e3,List.nil_append,List.map_map]; rfl
  have hsm:=strsP_map (rs.map ruT)
  have hs':((rs.map ruT).map (·.length)).sum + (rs.map ruT).length * (Str.ofString "; ").length ≤ 16777216:=by omega
  have fin:=h S3 (k2.trans k3)
  rw [e] at fin
  generalize hys:rs.map ruT = ys at e3 hsm hs' hs hl fin hp
  have hz:truP (.str (Txt.join (Str.ofString "; ") ys)) S3 = some true:=by
   show (if _ then _ else _) = _
   rw [if_pos (by omega)]
   congr 1
   rw [bne_iff_ne]
   omega
  simp [e3,hsm,hs',hz,-zq0,-zq1,-zq2,-zq3,-zq4,-zq5,-zq6]
  exact fin
theorem lterm_wp {t:Trm} {S:Sto} {P:PV→Sto→Prop} {R:Str→PV→Sto→Prop} (ok:TmOk t) (hl:(tmT t).length ≤ 1000000) (h:P (.str (tmT t)) S):wp (m_q3 [t.pv] S) P R:=by
 unfold m_q3
 rw [callS_wp]
 obtain ⟨q1,q2,_⟩:=slens
 cases t with
 | name x =>
  have e:(tmT (.name x)).length = 1 + x.length:=by show (Str.ofString "?" ++ x).length = _; rw [RU.app_len,q1]
  simp [startE,Trm.pv,q1,-zq0,-zq1,-zq2,-zq3,-zq4,-zq5,-zq6]
  exact ⟨by omega,h⟩
 | num i =>
  simp [startE,Trm.pv,log_60 (show SmI i from ok),-zq0,-zq1,-zq2,-zq3,-zq4,-zq5,-zq6]
  exact h
 | txt x =>
  have e0:(Str.ofString "'" ++ x).length = 1 + x.length:=by rw [RU.app_len,q2]
  have e:(tmT (.txt x)).length = 1 + x.length + 1:=by show (Str.ofString "'" ++ x ++ Str.ofString "'").length = _; rw [RU.app_len,e0,q2]
  have b1:1 + x.length ≤ 16777216:=by omega
  have b3:1 + x.length + 1 ≤ 16777216:=by omega
  simp [startE,Trm.pv,q2,e0,b1,b3,-zq0,-zq1,-zq2,-zq3,-zq4,-zq5,-zq6]
  exact h
theorem latom_wp {a:Atm} {S:Sto} {P:PV→Sto→Prop} {R:Str→PV→Sto→Prop} (ok:∀ t ∈ a.2,TmOk t) (hl:(atT a).length ≤ 1000000) (h:∀ S',Keep [] S S'→P (.str (atT a)) S'):wp (m_q1 [.str a.1,.tup (a.2.map Trm.pv)] S) P R:=by
 unfold m_q1
 rw [callS_wp]
 have hs:=join_sum (Str.ofString " ") (a.1 :: a.2.map tmT)
 have hn:=join_num (s:=Str.ofString " ") (ys:=a.1 :: a.2.map tmT) (by decide +kernel)
 have hj:Txt.join (Str.ofString " ") (a.1 :: a.2.map tmT) = atT a:=rfl
 rw [hj] at hs hn
 simp only [List.length_cons,List.length_map] at hn
 simp [startE,-zq0,-zq1,-zq2,-zq3,-zq4,-zq5,-zq6]
 refine lst_wp (by simp) ?_
 intro n S1 e1 k1 g1
 have lk1:=k1.1
 simp [-zq0,-zq1,-zq2,-zq3,-zq4,-zq5,-zq6]
 refine acc_map Trm.pv (fun t => PV.str (tmT t)) (xs:=a.2) (by simp) (by simp; omega) (fun t ht acc J hl hJ => ⟨_,rfl,?_⟩) ?_
 ·simp [wipeE,stepE_wp,-zq0,-zq1,-zq2,-zq3,-zq4,-zq5,-zq6]
  refine lterm_wp (ok t ht) ?_ ?_
  ·have:=join_mem (s:=Str.ofString " ") (w:=tmT t) (ys:=a.1 :: a.2.map tmT) (List.mem_cons_of_mem _ (List.mem_map_of_mem ht))
   rw [hj] at this
   omega
  ·simp [-zq0,-zq1,-zq2,-zq3,-zq4,-zq5,-zq6]
   exact ⟨hl,hJ⟩
 refine new_wp ?_
 intro n2 S2 e2 k2 g2
 have lk2:=k2.1
 rw [List.nil_append] at e2
 simp [-zq0,-zq1,-zq2,-zq3,-zq4,-zq5,-zq6]
 refine addL_wp (k2.get e1 (by simp)) e2 (by simp; omega) ?_
 intro n3 S3 e3 k3 g3
 have lk3:=k3.1
 have e3:S3[n3]? = some (.lst ((a.1 :: a.2.map tmT).map PV.str)):=by rw [e3]; simp
 have hsm:=strsP_map (a.1 :: a.2.map tmT)
 have slen:=slens.2.2.1
 have hs':((a.1 :: a.2.map tmT).map (·.length)).sum + (a.1 :: a.2.map tmT).length * (Str.ofString " ").length ≤ 16777216:=by omega
 generalize hys:a.1 :: a.2.map tmT = ys at e3 hsm hj hs'
 simp [e3,hsm,hs',hj,-zq0,-zq1,-zq2,-zq3,-zq4,-zq5,-zq6]
 exact h S3 ((k1.trans k2).trans k3)
end K59
namespace K59
open PySem PySem.Spec PyProof.Rows L2 PL RU RQ
open Classical
theorem lrules_shown_wp {rs:List Rul} {S:Sto} {P:PV→Sto→Prop} {R:Str→PV→Sto→Prop} (ok:∀ r ∈ rs,RuOk r) (hl:(rsT rs).length ≤ 1000000) (h:∀ S',Keep [] S S'→P (.str (rsT rs)) S'):wp (m_q0 [.tup (rs.map rulP)] S) P R:=by
 unfold m_q0
 rw [callS_wp]
 have q5:=slens.2.2.2.2.1
 have q7:=slens.2.2.2.2.2.2.1
 have q6:=slens.2.2.2.2.2.1
 have q4:=slens.2.2.2.1
 have q0:=slens.2.2.2.2.2.2.2
 have hrl:rs.length ≤ 1000001∧∀ r ∈ rs,(ruT r).length ≤ 1000000:=by
  by_cases hne:rs = []
  ·subst hne; simp
  ·have e:rsT rs = Txt.join (Str.ofString "; ") (rs.map ruT):=if_neg hne
   rw [e] at hl
   have hn:=join_num (s:=Str.ofString "; ") (ys:=rs.map ruT) (by decide +kernel)
   rw [List.length_map] at hn
   refine ⟨by omega,fun r hr => ?_⟩
   have:=join_mem (s:=Str.ofString "; ") (w:=ruT r) (ys:=rs.map ruT) (List.mem_map_of_mem hr)
   omega
 simp [startE,-zq0,-zq1,-zq2,-zq3,-zq4,-zq5,-zq6]
 refine lst_wp (by simp) ?_
 intro f S1 e1 k1 g1
 have lk1:=k1.1
 simp [-zq0,-zq1,-zq2,-zq3,-zq4,-zq5,-zq6]
 refine forM_wp rulP (fun dn τ S' => (∃ x2 x3 x4 x5 x6 x7 x8,τ = [some (.tup (rs.map rulP)),some (.loc f),x2,x3,x4,x5,x6,x7,x8])∧S'[f]? = some (.lst (dn.map fun r => PV.str (ruT r)))∧Keep [f] S1 S') ⟨⟨_,_,_,_,_,_,_,rfl⟩,e1,.refl⟩ ?_ ?_
 ·rintro dn r rest τ S2 J hrs ⟨⟨x2,x3,x4,x5,x6,x7,x8,rfl⟩,e2,k2⟩ hJ
  have hr:r ∈ rs:=by rw [hrs]; simp
  have hdn:dn.length < 1000001:=by
   have:=congrArg List.length hrs
   simp at this
   have:=hrl.1
   omega
  have hrt:=hrl.2 r hr
  have okr:=ok r hr
  obtain ⟨a,b⟩:=r
  refine ⟨by simp,_,rfl,?_⟩
  have hal:(atT a).length ≤ 1000000:=by
   unfold ruT at hrt
   split at hrt
   ·exact hrt
   ·rw [RU.app_len,RU.app_len] at hrt
    have hrt:(atT a).length + _ + _ ≤ _:=hrt
    omega
  have hbl:b.length ≤ 1000001∧(∀ l ∈ b,(liT l).length ≤ 1000000)∧(b ≠ []→(atT a).length + 4 + (Txt.join (Str.ofString ", ") (b.map liT)).length ≤ 1000000):=by
   by_cases hne:b = []
   ·subst hne; simp
   ·have e:ruT (a,b) = atT a ++ Str.ofString " if " ++ Txt.join (Str.ofString ", ") (b.map liT):=if_neg hne
    rw [e,RU.app_len,RU.app_len,q6] at hrt
    have hn:=join_num (s:=Str.ofString ", ") (ys:=b.map liT) (by decide +kernel)
    rw [List.length_map] at hn
    refine ⟨by omega,fun l hl => ?_,fun _ => hrt⟩
    have:=join_mem (s:=Str.ofString ", ") (w:=liT l) (ys:=b.map liT) (List.mem_map_of_mem hl)
    omega
  simp [atmP,-zq0,-zq1,-zq2,-zq3,-zq4,-zq5,-zq6]
  refine lst_wp (by simp) ?_
  intro so S3 e3 k3 g3
  have lk3:=k3.1
  have e23:=k3.get e2 (by simp)
  simp [-zq0,-zq1,-zq2,-zq3,-zq4,-zq5,-zq6]
  have lf:=lt_of_get e2
  refine forM_wp litP (fun dq τ S' => (∃ x5 x6 x7 x8,τ = [some (.tup (rs.map rulP)),some (.loc f),some (.tup [.str a.1,.tup (a.2.map Trm.pv)]),some (.tup (b.map litP)),some (.loc so),x5,x6,x7,x8])∧S'[so]? = some (.lst (dq.map fun l => PV.str (liT l)))∧Keep [so] S3 S') ⟨⟨_,_,_,_,rfl⟩,e3,.refl⟩ ?_ ?_
  ·rintro dq l rest2 τ S4 J2 hb ⟨⟨x5,x6,x7,x8,rfl⟩,e4,k4⟩ hJ2
   have hlm:l ∈ b:=by rw [hb]; simp
   have hdq:dq.length < 1000001:=by
    have:=congrArg List.length hb
    simp at this
    have:=hbl.1
    omega
   have hlt:=hbl.2.1 l hlm
   have okl:=okr.2 l hlm
   obtain ⟨x,ts,t⟩:=l
   refine ⟨by simp,_,rfl,?_⟩
   simp [litP,e4,-zq0,-zq1,-zq2,-zq3,-zq4,-zq5,-zq6]
   refine lst_wp (by simp) ?_
   intro n5 S5 e5 k5 g5
   have lk5:=k5.1
   have fin:∀ S6,Keep [] S5 S6→J2 [some (.tup (rs.map rulP)),some (.loc f),some (.tup [.str a.1,.tup (a.2.map Trm.pv)]),some (.tup (b.map litP)),some (.loc so),x5,some (.str x),some (.tup (ts.map Trm.pv)),some (.bl t)] (S6.set so (.lst ((dq.map fun l => PV.str (liT l)) ++ [.str (liT (x,ts,t))]))):=fun S6 k6 => by
    have e46:=(k5.trans k6).get e4 (by simp)
    exact hJ2 _ _ ⟨⟨_,_,_,_,rfl⟩,by rw [set_get e46]; simp,(k4.trans ((k5.trans k6).mono (by simp))).trans (.set (by simp))⟩
   cases t with
   | true =>
    have hi:intP (.bl true) S5 = some (.int 1,S5):=rfl
    simp [hi,e5,-zq0,-zq1,-zq2,-zq3,-zq4,-zq5,-zq6]
    refine latom_wp (a:=(x,ts)) okl.2 hlt ?_
    intro S6 k6
    have b1:0 + (atT (x,ts)).length ≤ 16777216:=by have hlt:(atT (x,ts)).length ≤ _:=hlt; omega
    have e46:=(k5.trans k6).get e4 (by simp)
    have ee:Str.ofString "" ++ atT (x,ts) = atT (x,ts):=by rw [e_str]; exact Str.empty_append _
    simp [q0,b1,e46,ee,-zq0,-zq1,-zq2,-zq3,-zq4,-zq5,-zq6]
    refine ⟨by have hlt:(atT (x,ts)).length ≤ _:=hlt; omega,by omega,?_⟩
    exact fin S6 k6
   | false =>
    have e:(liT (x,ts,false)).length = 4 + (atT (x,ts)).length:=by show (Str.ofString "not " ++ atT (x,ts)).length = _; rw [RU.app_len,q7]
    have hi:intP (.bl false) S5 = some (.int 0,S5):=rfl
    simp [hi,e5,-zq0,-zq1,-zq2,-zq3,-zq4,-zq5,-zq6]
    refine latom_wp (a:=(x,ts)) okl.2 (by omega) ?_
    intro S6 k6
    have b1:4 + (atT (x,ts)).length ≤ 16777216:=by omega
    have e46:=(k5.trans k6).get e4 (by simp)
    simp [q7,b1,e46,-zq0,-zq1,-zq2,-zq3,-zq4,-zq5,-zq6]
    refine ⟨by omega,?_⟩
    exact fin S6 k6
  ·rintro τ S4 ⟨⟨x5,x6,x7,x8,rfl⟩,e4,k4⟩
   refine ⟨by simp,?_⟩
   simp [-zq0,-zq1,-zq2,-zq3,-zq4,-zq5,-zq6]
   refine lst_wp (by simp) ?_
   intro n5 S5 e5 k5 g5
   have lk5:=k5.1
   have e45:=k5.get e4 (by simp)
   have e25:=(k5.get (k4.get e23 (by simp; omega)) (by simp))
   have hlf:f < S3.length:=lt_of_get e23
   have fin:∀ x5 S6,Keep [] S5 S6→J [some (.tup (rs.map rulP)),some (.loc f),some (.tup [.str a.1,.tup (a.2.map Trm.pv)]),some (.tup (b.map litP)),some (.loc so),x5,x6,x7,x8] (S6.set f (.lst ((dn.map fun r => PV.str (ruT r)) ++ [.str (ruT (a,b))]))):=fun x5 S6 k6 => by
    have e26:=k6.get e25 (by simp)
    refine hJ _ _ ⟨⟨_,_,_,_,_,_,_,rfl⟩,by rw [set_get e26]; simp,?_⟩
    have kk:Keep [] S2 S6:=(((k3.mono (M':=[so]) (by simp)).trans (k4.trans ((k5.trans k6).mono (by simp))))).mono (by intro x hx hlt; simp at hx; omega)
    exact (k2.trans (kk.mono (by simp))).trans (.set (by simp))
   cases hb:b with
   | nil =>
    subst hb
    simp [e45,e5,e25,-zq0,-zq1,-zq2,-zq3,-zq4,-zq5,-zq6]
    refine latom_wp okr.1.2 hal ?_
    intro S6 k6
    have e26:=k6.get e25 (by simp)
    have ee:atT a ++ Str.ofString "" = atT a:=by rw [e_str]; exact Str.append_empty _
    simp [q0,ee,e26,-zq0,-zq1,-zq2,-zq3,-zq4,-zq5,-zq6]
    refine ⟨by omega,by omega,?_⟩
    exact fin _ S6 k6
   | cons l0 b0 =>
    have hne:b ≠ []:=by rw [hb]; simp
    rw [← hb]
    have hie:((b.map liT).map PV.str).isEmpty = false:=by rw [hb]; rfl
    have e:ruT (a,b) = atT a ++ Str.ofString " if " ++ Txt.join (Str.ofString ", ") (b.map liT):=if_neg hne
    have hbj:=hbl.2.2 hne
    have hmm:(b.map fun l => PV.str (liT l)) = (b.map liT).map PV.str:=by rw [List.map_map]; rfl
    rw [hmm] at e45
    have hsm:=strsP_map (b.map liT)
    have hs:=join_sum (Str.ofString ", ") (b.map liT)
    have hs':((b.map liT).map (·.length)).sum + (b.map liT).length * (Str.ofString ", ").length ≤ 16777216:=by omega
    generalize hys:b.map liT = ys at e45 hie hsm hs hs' hbj e
    have hye:¬ ys = []:=by rw [← hys]; simpa using hne
    have b2:4 + (Txt.join (Str.ofString ", ") ys).length ≤ 16777216:=by omega
    simp [e45,e5,e25,hye,hsm,hs',q6,b2,-zq0,-zq1,-zq2,-zq3,-zq4,-zq5,-zq6]
    refine latom_wp okr.1.2 hal ?_
    intro S6 k6
    have e26:=k6.get e25 (by simp)
    have hab:(Str.ofString " if " ++ Txt.join (Str.ofString ", ") ys).length = 4 + (Txt.join (Str.ofString ", ") ys).length:=by rw [RU.app_len,q6]
    have b3:(atT a).length + (4 + (Txt.join (Str.ofString ", ") ys).length) ≤ 16777216:=by omega
    simp [hab,b3,e26,-zq0,-zq1,-zq2,-zq3,-zq4,-zq5,-zq6]
    refine ⟨by omega,?_⟩
    have:=fin (some (.str (Str.ofString " if " ++ Txt.join (Str.ofString ", ") ys))) S6 k6
    rw [e,Str.append_assoc] at this
    exact this
 ·rintro τ S2 ⟨⟨x2,x3,x4,x5,x6,x7,x8,rfl⟩,e2,k2⟩
  refine ⟨by simp,?_⟩
  simp [-zq0,-zq1,-zq2,-zq3,-zq4,-zq5,-zq6]
  refine lst_wp (by simp) ?_
  intro n3 S3 e3 k3 g3
  have lk3:=k3.1
  have e23:=k3.get e2 (by simp)
  have k13:Keep [] S S3:=(((k1.mono (M':=[f]) (by simp)).trans (k2.trans (k3.mono (by simp))))).mono (by intro x hx hlt; simp at hx; omega)
  have fin:=h S3 k13
  cases hrs:rs with
  | nil =>
   subst hrs
   simp [e23,e3,-zq0,-zq1,-zq2,-zq3,-zq4,-zq5,-zq6]
   exact fin
  | cons r0 rs0 =>
   have hne:rs ≠ []:=by rw [hrs]; simp
   have e:rsT rs = Txt.join (Str.ofString "; ") (rs.map ruT):=if_neg hne
   rw [e] at fin hl
   have hs:=join_sum (Str.ofString "; ") (rs.map ruT)
   have hmm:(rs.map fun r => PV.str (ruT r)) = (rs.map ruT).map PV.str:=by rw [List.map_map]; rfl
   rw [hmm] at e23
   have hsm:=strsP_map (rs.map ruT)
   have hs':((rs.map ruT).map (·.length)).sum + (rs.map ruT).length * (Str.ofString "; ").length ≤ 16777216:=by omega
   have hye:¬ (rs.map ruT) = []:=by simpa using hne
   generalize hys:rs.map ruT = ys at e23 hsm hs hs' fin hye
   simp [e23,e3,hye,hsm,hs',-zq0,-zq1,-zq2,-zq3,-zq4,-zq5,-zq6]
   exact fin
end K59
namespace K59
open PySem PySem.Spec PyProof.Rows L2 PL
structure Tray (t g:Nat) (B:Nat) (S:Sto):Prop where
 ne:t ≠ g
 ex:∃ (gs:List Int) (b f c:Int),S[t]? = some (.lst [.loc g,.int b,.int f,.int c])∧S[g]? = some (.lst (gs.map PV.int))∧0 ≤ f∧f < 2305843009213693951∧0 ≤ c∧c ≤ B
theorem Tray.keep {t g B:Nat} {M:List Nat} {S S':Sto} (T:Tray t g B S) (k:Keep M S S') (ht:t ∉ M) (hg:g ∉ M):Tray t g B S':=by
 obtain ⟨gs,b,f,c,h1,h2,h3⟩:=T.ex
 exact ⟨T.ne,gs,b,f,c,k.get h1 ht,k.get h2 hg,h3⟩
theorem Tray.up {t g B B':Nat} {S:Sto} (T:Tray t g B S) (h:B ≤ B'):Tray t g B' S:=by
 obtain ⟨gs,b,f,c,h1,h2,h3,h4,h5,h6⟩:=T.ex
 exact ⟨T.ne,gs,b,f,c,h1,h2,h3,h4,h5,by omega⟩
theorem Tray.lt {t g B:Nat} {S:Sto} (T:Tray t g B S):t < S.length∧g < S.length:=by
 obtain ⟨gs,b,f,c,h1,h2,_⟩:=T.ex
 exact ⟨lt_of_get h1,lt_of_get h2⟩
theorem map_split {α β : Type} {f : α→β} {ns:List α} {dn rs:List β} {p : β} (h:ns.map f = dn ++ p :: rs):∃ n,p = f n∧n ∈ ns:=by
 have:p ∈ ns.map f:=by rw [h]; simp
 obtain ⟨n,hn,e⟩:=List.mem_map.mp this
 exact ⟨n,e.symm,hn⟩
theorem tray_wp {ns:List Int} (hn:ns.length ≤ 63) {P:PV→Sto→Prop} {R:Str→PV→Sto→Prop} (h:∀ t g S,Tray t g 0 S→P (.loc t) S) :
  wp (m_q21 [.fls (ns.map PV.int)] []) P R:=by
 unfold m_q21
 rw [callS_wp]
 simp [startE]
 refine forL_inv (fun dn rs τ S => ∃ (fold:Int) (gs:List Int) (x3 x4:Option PV),τ = [some (.fls (ns.map PV.int)),some (.int fold),some (.loc 0),x3,x4]∧S = [.lst (gs.map PV.int)]∧0 ≤ fold∧fold < 2305843009213693951∧gs.length ≤ dn.length)
  ⟨_,[],_,_,rfl,rfl,by decide,by decide,Nat.le_refl _⟩ ?_ ?_
 ·rintro dn p rs τ S e ⟨fold,gs,x3,x4,rfl,rfl,f0,f1,hl⟩
  obtain ⟨n,rfl,_⟩:=map_split e
  have hd:dn.length < 63:=by
   have:=congrArg List.length e
   simp at this; omega
  simp
  exact ⟨fun _ => ⟨by omega,gs ++ [(if n < -n then -n else n) - 1000000000000000000],by simp,by omega,by omega,by simp; omega⟩,fun _ => ⟨gs,rfl,by omega,by omega,by omega⟩⟩
 ·rintro τ S ⟨fold,gs,x3,x4,rfl,rfl,f0,f1,hl⟩
  simp
  exact h 1 0 _ ⟨by decide,gs,0,fold,0,rfl,rfl,f0,f1,by decide,by decide⟩
theorem draw_wp {t g B:Nat} {S:Sto} {m:Int} (T:Tray t g B S) (hB:B < 1000000000000000000) (hm:0 < m) (hm2:m ≤ 1000000000000000) {P:PV→Sto→Prop} {R:Str→PV→Sto→Prop}
  (h:∀ (n:Int) S',0 ≤ n→n < m→Tray t g (B + 1) S'→Keep [t,g] S S'→P (.int n) S'):wp (m_q16 [.loc t,.int m] S) P R:=by
 unfold m_q16
 rw [callS_wp]
 simp [startE]
 obtain ⟨gs,b,f,c,h1,h2,f0,f1,c0,c1⟩:=T.ex
 refine while_wp (fun m' τ S' => τ = [some (.loc t),some (.int m),none,none]∧Keep [t,g] S S'∧∃ (gs:List Int) (b:Int),gs.length = m'∧S'[t]? = some (.lst [.loc g,.int b,.int f,.int c])∧S'[g]? = some (.lst (gs.map PV.int)))
  ⟨rfl,.refl,gs,b,rfl,h1,h2⟩ ?_
 rintro m' τ S1 C J ⟨rfl,K,gs,b,rfl,q1,q2⟩ hT hF hJ
 have ne:=T.ne
 have hend:∀ S2,Keep [t,g] S S2→S2[t]? = some (.lst [.loc g,.int b,.int f,.int c])→S2[g]? = some (.lst (gs.map PV.int))→C false S2:=by
  intro S2 K q1 q2
  refine hF S2 ?_
  simp [q1]
  constructor
  ·intro hb
   refine ⟨hm,by omega,?_⟩
   refine h _ _ (Int.emod_nonneg _ (by omega)) (Int.emod_lt_of_pos _ hm) ?_ (K.trans (.set (by simp)))
   exact ⟨T.ne,gs,b / m,f,c,set_get q1,by rw [List.getElem?_set_ne ne]; exact q2,f0,f1,c0,by omega⟩
  ·intro hb
   simp [set_get q1]
   generalize hX:(f + 5) * (c + 1 + 2) ^ 3 + 1000003 * (c + 1) = X
   have x0:0 ≤ X % 2305843009213693951:=Int.emod_nonneg _ (by decide)
   have x1:X % 2305843009213693951 < 2305843009213693951:=Int.emod_lt_of_pos _ (by decide)
   refine ⟨by omega,.inl ⟨by omega,by omega⟩,by omega,hm,?_⟩
   refine h _ _ (Int.emod_nonneg _ (by omega)) (Int.emod_lt_of_pos _ hm) ?_ (K.trans (.set (by simp)))
   exact ⟨T.ne,gs,b,f,c + 1,set_get q1,by rw [List.getElem?_set_ne ne]; exact q2,f0,f1,by omega,by omega⟩
 simp [q1]
 constructor
 ·intro hb
  have lt:=lt_of_get q2
  have e2:(S1 ++ [Ob.lst []])[g]? = some (.lst (gs.map PV.int)):=by rw [List.getElem?_append_left lt]; exact q2
  have e1:(S1 ++ [Ob.lst []])[t]? = some (.lst [.loc g,.int b,.int f,.int c]):=by rw [List.getElem?_append_left (lt_of_get q1)]; exact q1
  obtain ⟨bb,he,hbb⟩:=eqB_lists (n:=0) (by decide) e2 (app_new (S:=S1) (o:=.lst [])) (PlL_iff.mpr fun x hx => by obtain ⟨i,_,rfl⟩:=List.mem_map.mp hx; simp [Pl]) (by simp [PlL])
  simp [he]
  have K2:Keep [t,g] S (S1 ++ [Ob.lst []]):=K.trans .app
  cases hgs:gs with
  | nil =>
   have:bb = true:=hbb.mpr (by simp [hgs])
   subst this
   exact hend _ K2 e1 e2
  | cons n gs' =>
   have:bb = false:=by
    cases bb with
    | false => rfl
    | true => have:=hbb.mp rfl; simp [hgs] at this
   subst this
   subst hgs
   refine hT _ ?_
   generalize hS2:S1 ++ [Ob.lst []] = S2 at *
   have e3:(S2.set g (.lst (gs'.map PV.int)))[t]? = some (.lst [.loc g,.int b,.int f,.int c]):=by rw [List.getElem?_set_ne (Ne.symm ne)]; exact e1
   have ix:ixN (gs'.length + 1) 0 = some 0:=by
    unfold ixN; rw [if_pos (by omega),if_pos (by omega)]; rfl
   simp [e1,e2,e3,ix]
   refine hJ gs'.length _ _ (by simp) ⟨rfl,(K2.trans (.set (by simp))).trans (.set (by simp)),gs',n,rfl,set_get e3,?_⟩
   rw [List.getElem?_set_ne ne]
   exact set_get e2
 ·intro hb
  exact hend _ K q1 q2
end K59
namespace K59
open PySem PySem.Spec PyProof.Rows L2 PL
end K59
namespace K59
open PySem PySem.Spec PyProof.Rows L2 PL
def bars:List Str:=["", "main", "def", "end", "read", "clean", "call", "send", "give", "if", "else"]
def wordsN:List Str:=["set", "copy", "add", "num", "not", "same", "sends", "next", "ends", "mains", "calls", "none"]
theorem wordsN_ok:∀ x ∈ wordsN,Lw x∧x.length ≤ 8:=by
 simp only [wordsN,List.forall_mem_cons,Lw]
 decide +kernel
theorem names_plain {us:List Str} (h:∀ u ∈ us,Nm u) (n:Nat):PlL n (us.map PV.str):=PlL_iff.mpr fun x hx => by
 obtain ⟨u,hu,rfl⟩:=List.mem_map.mp hx
 exact (h u hu).l.plain n
def one (c:Nat):Str:=⟨#[c]⟩
def abcS:List Str:=(List.range' 97 26).map one
theorem name_wp {t g B u:Nat} {S:Sto} {us:List Str} (T:Tray t g B S) (hB:B < 10000000000000000) (hu:S[u]? = some (.lst (us.map PV.str))) (hut:u ≠ t) (hug:u ≠ g) (hn:∀ x ∈ us,Nm x) (hl:us.length ≤ 24) {P:PV→Sto→Prop} {R:Str→PV→Sto→Prop}
  (h:∀ (x:Str) S',Nm x→x ∉ us→x ∉ bars→Tray t g (B + 15) S'→Keep [t,g] S S'→P (.str x) S'):wp (m_q19 [.loc t,.loc u] S) P R:=by
 unfold m_q19
 rw [callS_wp]
 simp [startE]
 refine draw_wp T (by omega) (by decide) (by decide) ?_
 intro lot S1 l0 l1 T1 K1
 simp
 refine draw_wp T1 (by omega) (by decide) (by decide) ?_
 intro n2 S2 h0 h1 T2 K2
 obtain ⟨c,hc,hL⟩:=abc_at h0 (by simpa using h1)
 have len26:=abc_len
 simp [hc,len26]
 refine draw_wp T2 (by omega) (by decide) (by decide) ?_
 intro n3 S3 h0 h1 T3 K3
 simp
 refine ⟨by unfold rngOk; omega,?_⟩
 have K03:Keep [t,g] S S3:=(K1.trans K2).trans K3
 refine acc_wp (fun dn rs acc S' => ∃ cs:List Nat,acc = cs.map (fun c => PV.str (one c))∧cs.length = dn.length∧(∀ c ∈ cs,Lt c)∧Tray t g (B + 3 + dn.length) S'∧Keep [t,g] S S') ⟨[],rfl,rfl,by simp,T3,K03⟩ ?_ ?_
 ·rintro dn p rs acc S4 J e ⟨cs,rfl,hcs,hLt,T4,K4⟩ hJ
  have hd:dn.length < 8:=by
   have:=congrArg List.length e
   simp [rngI] at this; omega
  simp [wipeE,stepE_wp]
  refine draw_wp T4 (by omega) (by decide) (by decide) ?_
  intro n5 S5 h0 h1 T5 K5
  obtain ⟨c,hc,hL⟩:=abc_at h0 (by simpa using h1)
  simp [hc,len26]
  refine ⟨by omega,hJ _ _ ⟨cs ++ [c],by simp [one],by simp [hcs],?_,by simpa [Nat.add_assoc] using T5,K4.trans K5⟩⟩
  intro d hd
  rcases List.mem_append.mp hd with q | q
  ·exact hLt d q
  ·simp at q; subst q; exact hL
 ·rintro acc S4 ⟨cs,rfl,hcs,hLt,T4,K4⟩
  have hd:cs.length ≤ 8:=by
   rw [hcs]; simp [rngI]; omega
  have eI:itemsP (.loc S4.length) (S4 ++ [Ob.lst (cs.map fun c => PV.str (one c))]) = some ((cs.map one).map PV.str):=by simp
  have e2:(Str.ofString "").length = 0:=by decide +kernel
  have e3:(List.map ((fun x => x.length) ∘ one) cs).sum ≤ 16777216:=by
   have:∀ l:List Nat,(List.map ((fun x => x.length) ∘ one) l).sum = l.length:=by
    intro l
    induction l with
    | nil => rfl
    | cons a l ih => simp [one,Str.length] at ih ⊢; omega
   rw [this]; omega
  simp [eI,strsP_comp',e2,e3,-e_seqS]
  have T5:Tray t g (B + 11) (S4 ++ [Ob.lst (cs.map fun c => PV.str (one c))]):=(T4.up (by have:(rngI 0 (1 + n3)).length ≤ 8:=by { rw [← hcs]; exact hd }; omega)).keep (M:=[]) .app (by simp) (by simp)
  have K5:Keep [t,g] S (S4 ++ [Ob.lst (cs.map fun c => PV.str (one c))]):=K4.trans .app
  generalize S4 ++ [Ob.lst (cs.map fun c => PV.str (one c))] = S5 at *
  obtain ⟨nm,hnm⟩:∃ x:Str,Txt.join (Str.ofString "") (cs.map one) = x:=⟨_,rfl⟩
  have hw:Lw nm∧nm.length ≤ 8:=by
   have:ch nm = cs:=by
    rw [← hnm,empty_str,ch_join0,List.map_map]
    have:∀ l:List Nat,(l.map (ch ∘ one)).flatten = l:=by
     intro l
     induction l with
     | nil => rfl
     | cons a l ih => simp [one,ch] at ih ⊢; exact ih
    exact this cs
   exact ⟨fun c hc => hLt c (by rw [← this]; exact hc),by rw [← ch_len,this]; exact hd⟩
  rw [hnm,e_seqS,e_seqO]
  refine wpS_mid (fun τ' S' => ∃ (x:Str) (a b d:Option PV),τ' = [some (.loc t),some (.loc u),some (.str "abcdefghijklmnopqrstuvwxyz"),some (.int lot),some (.str ⟨#[c]⟩),some (.str x),none,none,a,b,d,none,none]∧Lw x∧x.length ≤ 8∧Tray t g (B + 14) S'∧Keep [t,g] S S') ?_ ?_
  ·intro J hJ
   simp
   constructor
   ·intro _
    have T6:Tray t g (B + 11) (S5 ++ [Ob.lst (wordsN.map PV.str)]):=T5.keep (M:=[]) .app (by simp) (by simp)
    refine draw_wp T6 (by omega) (by decide) (by decide) ?_
    intro n6 S6 h0 h1 T6 K6
    have e:=K6.get (app_new (S:=S5) (o:=.lst (wordsN.map PV.str))) (by have:=T5.lt; simp; omega)
    obtain ⟨x,hx,_,hm⟩:=atI_nat (xs:=wordsN.map PV.str) (i:=n6) h0 (by simpa [wordsN] using h1)
    obtain ⟨w,hw,rfl⟩:=List.mem_map.mp hm
    simp [e,hx]
    exact hJ _ _ ⟨w,_,_,_,rfl,(wordsN_ok w hw).1,(wordsN_ok w hw).2,T6.up (by omega),(K5.trans .app).trans K6⟩
   ·intro hl4
    constructor
    ·intro hlp
     have hu5:=K5.get hu (by simp [hut,hug])
     have hu6:(S5 ++ [Ob.lst []])[u]? = some (.lst (us.map PV.str)):=by rw [List.getElem?_append_left (lt_of_get hu5)]; exact hu5
     obtain ⟨bb,he,hbb⟩:=eqB_lists (n:=0) (by decide) hu6 (app_new (S:=S5) (o:=.lst [])) (names_plain hn 0) (by simp [PlL])
     have T6:Tray t g (B + 11) (S5 ++ [Ob.lst []]):=T5.keep (M:=[]) .app (by simp) (by simp)
     have K6:Keep [t,g] S (S5 ++ [Ob.lst []]):=K5.trans .app
     simp [he]
     generalize S5 ++ [Ob.lst []] = S6 at *
     constructor
     ·intro hb
      simp [hu6]
      have hpos:0 < us.length:=by
       cases us with
       | nil => have:bb = true:=hbb.mpr rfl; simp [this] at hb
       | cons a l => simp
      refine draw_wp T6 (by omega) (by omega) (by omega) ?_
      intro n7 S7 h0 h1 T7 K7
      have hu7:=K7.get hu6 (by simp [hut,hug])
      obtain ⟨x,hx,_,hm⟩:=atI_nat (xs:=us.map PV.str) (i:=n7) h0 (by simpa using h1)
      obtain ⟨w,hw,rfl⟩:=List.mem_map.mp hm
      have ho:=hn w hw
      have hq:=ho.q
      simp [hu7,hx]
      refine ⟨by omega,?_⟩
      refine draw_wp T7 (by omega) (by omega) (by omega) ?_
      intro n8 S8 h0 h1 T8 K8
      have c1:(cutS w none (some n8)).length ≤ 8:=Nat.le_trans (cut_le _ _ _) hq
      have c2:∀ k,(cutS w (some k) none).length ≤ 8:=fun k => Nat.le_trans (cut_le _ _ _) hq
      have c3:=c2 n8
      have c4:=c2 (n8 + 1)
      have T9:∀ o o',Tray t g (B + 14) (S8 ++ [o] ++ [o']):=fun o o' => ((T8.up (by omega)).keep (M:=[]) .app (by simp) (by simp)).keep (M:=[]) .app (by simp) (by simp)
      have K9:∀ o o',Keep [t,g] S (S8 ++ [o] ++ [o']):=fun o o' => (((K6.trans K7).trans K8).trans .app).trans .app
      have lE:(Str.ofString "").length = 0:=by decide +kernel
      have l1:Str.length { cps:=#[c] } = 1:=rfl
      have w1:Lw { cps:=#[c] }:=.one hL
      have wE:Lw (Str.ofString ""):=by rw [empty_str]; exact .nil
      have dn:∀ y z v:Str,Lw y→Lw z→Lw v→Lw (cutS (y ++ z ++ v) none (some 8)):=fun y z v a b c => ((a.app b).app c).cut _ _
      obtain rfl | rfl | rfl:lot = 1 ∨ lot = 2 ∨ lot = 3:=by omega
      all_goals
       simp [len_app,lE,l1]
       refine ⟨by omega,by omega,by omega,by omega,hJ _ _ ⟨_,_,_,_,rfl,dn _ _ _ (ho.l.cut _ _) ?_ (ho.l.cut _ _),cut_8 _,?_,?_⟩⟩
       ·first | exact w1 | exact wE
       ·simpa using T9 _ _
       ·simpa using K9 _ _
     ·intro hb
      exact hJ _ _ ⟨_,_,_,_,rfl,hw.1,hw.2,T6.up (by omega),K6⟩
    ·intro hlp
     exact hJ _ _ ⟨_,_,_,_,rfl,hw.1,hw.2,T5.up (by omega),K5⟩
  ·rintro τ' S6 ⟨x,a,b,d,rfl,hwx,hlx,T6,K6⟩
   have hL26:∀ c ∈ (Str.ofString "abcdefghijklmnopqrstuvwxyz").cps.toList,Lt c:=fun c hc => abc_mem.mp hc
   have hsz:(Str.ofString "abcdefghijklmnopqrstuvwxyz").cps.toList.length = 26:=by rw [show (Str.ofString "abcdefghijklmnopqrstuvwxyz").cps.toList = ch (Str.ofString "abcdefghijklmnopqrstuvwxyz") from rfl,ch_len]; exact abc_len
   simp [-zq0,-zq1,-zq2]
   refine lst_wp (by simp) ?_
   intro n1 S7 e1 k1 _
   simp [-zq0,-zq1,-zq2]
   refine acc_map (fun c => PV.str ⟨#[c]⟩) (fun c => PV.str (one c)) (by simp) (by rw [hsz]; decide) (fun c hc acc J hl hJ => ⟨_,rfl,by simp [wipeE,stepE_wp,hl]; exact hJ⟩) ?_
   refine new_wp ?_
   intro n2 S8 e2 k2 _
   simp [-zq0,-zq1,-zq2]
   refine addL_wp (k2.get e1 (by simp)) e2 (by simp only [List.length_append,List.length_map,List.length_cons,List.length_nil,hsz]; decide) ?_
   intro n3 S9 e3 k3 _
   simp [-zq0,-zq1,-zq2]
   refine acc_map (fun c => PV.str ⟨#[c]⟩) (fun c => PV.str (Txt.mul (one c) 3)) (by simp) (by rw [hsz]; decide) (fun c hc acc J hl hJ => ⟨_,rfl,by simp [wipeE,stepE_wp,hl,Str.length]; exact hJ⟩) ?_
   refine new_wp ?_
   intro n4 S10 e4 k4 _
   simp [-zq0,-zq1,-zq2]
   refine addL_wp (k4.get e3 (by simp)) e4 (by simp only [List.length_append,List.length_map,List.length_cons,List.length_nil,hsz]; decide) ?_
   intro n5 S11 e5 k5 _
   simp [-zq0,-zq1,-zq2]
   refine acc_map (fun c => PV.str ⟨#[c]⟩) (fun c => PV.str (Txt.mul (one c) 5)) (by simp) (by rw [hsz]; decide) (fun c hc acc J hl hJ => ⟨_,rfl,by simp [wipeE,stepE_wp,hl,Str.length]; exact hJ⟩) ?_
   refine new_wp ?_
   intro n6 S12 e6 k6 _
   simp [-zq0,-zq1,-zq2]
   refine addL_wp (k6.get e5 (by simp)) e6 (by simp only [List.length_append,List.length_map,List.length_cons,List.length_nil,hsz]; decide) ?_
   intro n7 S13 e7 k7 _
   simp [-zq0,-zq1,-zq2]
   refine lst_wp (by simp) ?_
   intro n8 S14 e8 k8 _
   generalize hcps:(Str.ofString "abcdefghijklmnopqrstuvwxyz").cps.toList = cps at *
   obtain ⟨sm,hsm⟩:∃ sm:List Str,sm = [x] ++ cps.map one ++ cps.map (fun c => Txt.mul (one c) 3) ++ cps.map (fun c => Txt.mul (one c) 5):=⟨_,rfl⟩
   have e7':S14[n7]? = some (.lst (sm.map PV.str)):=by
    refine (k8.get e7 (by simp)).trans ?_
    rw [hsm]
    simp [List.map_map,Function.comp_def]
   have e8':S14[n8]? = some (.lst (bars.map PV.str)):=e8
   have K59:Keep [t,g] S S14:=by
    refine K6.trans ?_
    exact (((((((k1.trans k2).trans k3).trans k4).trans k5).trans k6).trans k7).trans k8).mono (by simp)
   have K614:Keep [] S6 S14:=(((((((k1.trans k2).trans k3).trans k4).trans k5).trans k6).trans k7).trans k8)
   have T14:Tray t g (B + 14) S14:=T6.keep K614 (by simp) (by simp)
   have hu14:S14[u]? = some (.lst (us.map PV.str)):=K59.get hu (by simp [hut,hug])
   simp [-zq0,-zq1,-zq2,e7']
   have hlen:sm.length = 79:=by rw [hsm]; simp [hsz]
   refine acc_wp (fun dn rs acc S' => ∃ ds:List Str,dn = ds.map PV.str∧acc = (ds.filter fun y => decide (y ∉ us ++ bars)).map PV.str∧Keep [] S14 S') ⟨[],rfl,rfl,.refl⟩ ?_ ?_
   ·rintro dn p rs acc S15 J e ⟨ds,rfl,rfl,k15⟩ hJ
    obtain ⟨y,rfl,hy⟩:=map_split e
    refine ⟨by simp; exact k15.get e7' (by simp),_,rfl,?_⟩
    simp [wipeE,stepE_wp,-zq0,-zq1,-zq2]
    have hds:ds.length < 79:=by
     have:=congrArg List.length e
     simp [hlen] at this; omega
    refine addL_wp (k15.get hu14 (by simp)) (k15.get e8' (by simp)) (by simp [bars]; omega) ?_
    intro n9 S16 e9 k16 _
    have e9':S16[n9]? = some (.lst ((us ++ bars).map PV.str)):=by rw [e9]; simp
    have hin:=inB_strs (x:=y) e9'
    simp [hin,-List.mem_append]
    have hfl:(ds.filter fun y => decide (y ∉ us ++ bars)).length ≤ ds.length:=List.length_filter_le _ _
    by_cases hm:y ∈ us ++ bars
    ·simp only [hm,not_true_eq_false,false_implies,not_false_eq_true,true_implies,true_and,and_true,decide_true,decide_false]
     refine hJ _ _ ⟨ds ++ [y],by simp,?_,k15.trans k16⟩
     rw [List.filter_append]
     simp only [List.filter_cons,List.filter_nil,hm,not_true_eq_false,decide_false]
     simp
    ·simp only [hm,not_true_eq_false,false_implies,not_false_eq_true,true_implies,true_and,and_true,decide_true,decide_false]
     refine ⟨Nat.lt_of_le_of_lt (List.length_filter_le _ _) (Nat.lt_trans hds (by decide)),hJ _ _ ⟨ds ++ [y],by simp,?_,k15.trans k16⟩⟩
     rw [List.filter_append]
     simp only [List.filter_cons,List.filter_nil,hm,not_false_eq_true,decide_true]
     simp
   ·rintro acc S15 ⟨ds,hds,rfl,k15⟩
    have:ds = sm:=by
     have:=congrArg (fun l => strsP l) hds
     simp only [strsP_map] at this
     exact (Option.some.inj this).symm
    subst this
    refine ⟨by simp; exact k15.get e7' (by simp),?_⟩
    refine new_wp ?_
    intro n9 S16 e9 k16 _
    have hex:∃ y ∈ ds,y ∉ us ++ bars:=by
     obtain ⟨y,hy,hyu⟩:=some_out (xs:=abcS) (us:=us) (by decide +kernel) (by simp [abcS]; omega)
     have hyb:y ∉ bars:=(by decide +kernel:∀ y ∈ abcS,y ∉ bars) y hy
     refine ⟨y,?_,by simp [hyu,hyb]⟩
     obtain ⟨c,hc,rfl⟩:=List.mem_map.mp hy
     have:c ∈ cps:=by rw [← hcps]; show c ∈ ch _; rw [abc_ch]; exact hc
     rw [hsm]
     simp only [List.mem_append,List.mem_map]
     exact .inl (.inl (.inr ⟨c,this,rfl⟩))
    obtain ⟨y,hy,hyn⟩:=hex
    have hmem:y ∈ ds.filter fun y => decide (y ∉ us ++ bars):=List.mem_filter.mpr ⟨hy,by simpa using hyn⟩
    cases hf:ds.filter (fun y => decide (y ∉ us ++ bars)) with
    | nil => rw [hf] at hmem; simp at hmem
    | cons w r =>
     have hw:w ∈ ds.filter fun y => decide (y ∉ us ++ bars):=by rw [hf]; simp
     obtain ⟨hw1,hw2⟩:=List.mem_filter.mp hw
     have hw2:w ∉ us ++ bars:=by simpa using hw2
     rw [hf] at e9
     simp [e9]
     have hwn:Lw w∧w.length ≤ 8:=by
      rw [hsm] at hw1
      simp only [List.mem_append,List.mem_map,List.mem_singleton] at hw1
      have rep:∀ (c k:Nat),Lt c→k ≤ 8→Lw (Txt.mul (one c) (k:Int))∧(Txt.mul (one c) (k:Int)).length ≤ 8:=fun c k hc hk => by
       have e:ch (Txt.mul (one c) (k:Int)) = List.replicate k c:=by rw [one,ch_mul1]; simp
       refine ⟨fun d hd => ?_,?_⟩
       ·rw [e] at hd
        rw [(List.mem_replicate.mp hd).2]; exact hc
       ·rw [← ch_len,e]; simpa using hk
      rcases hw1 with ((rfl | ⟨c,hc,rfl⟩) | ⟨c,hc,rfl⟩) | ⟨c,hc,rfl⟩
      ·exact ⟨hwx,hlx⟩
      ·exact ⟨.one (hL26 c hc),by simp [one,Str.length]⟩
      ·exact rep c 3 (hL26 c hc) (by decide)
      ·exact rep c 5 (hL26 c hc) (by decide)
     have hne:1 ≤ w.length:=by
      rcases Nat.eq_zero_or_pos w.length with z | z
      ·exfalso
       apply hw2
       have:w = Str.ofString "" := by
        rw [empty_str]
        apply ch_ext
        have:(ch w).length = 0:=by rw [ch_len]; exact z
        simpa [ch] using this
       rw [this]
       simp [bars]
      ·exact z
     refine h w S16 ⟨hwn.1,hne,hwn.2⟩ (fun z => hw2 (List.mem_append_left _ z)) (fun z => hw2 (List.mem_append_right _ z)) ?_ ?_
     ·exact (T14.keep (k15.trans k16) (by simp) (by simp)).up (by omega)
     ·exact K59.trans ((k15.trans k16).mono (by simp))
end K59
namespace K59
open PySem PySem.Spec PyProof.Rows L2 PL RU RQ
open Classical
theorem great2_wp {t g B:Nat} {S:Sto} (T:Tray t g B S) (hB:B < 100000000000000000) {P:PV→Sto→Prop} {R:Str→PV→Sto→Prop}
  (h:∀ (n:Int) S',0 ≤ n→n < 100000000000000000000000000000000000000000000000000000000000→Tray t g (B + 4) S'→Keep [t,g] S S'→P (.int n) S'):wp (m_q9 [.loc t] S) P R:=by
 unfold m_q9
 rw [callS_wp]
 simp [startE]
 refine draw_wp T (by omega) (by decide) (by decide) ?_
 intro n S1 n0 n1 T1 K1
 simp [rngOk]
 refine for_wp (fun dn rs τ S' => ∃ (n:Int) (x:Option PV),τ = [some (.loc t),some (.int n),x]∧0 ≤ n∧(dn.length = 0→n < 100000000000000)∧(dn.length = 1→n < 100000000000000000000000000000)∧(dn.length = 2→n < 100000000000000000000000000000000000000000000)∧(dn.length = 3→n < 100000000000000000000000000000000000000000000000000000000000)∧Tray t g (B + 1 + dn.length) S'∧Keep [t,g] S S') ⟨n,none,rfl,n0,fun _ => n1,by simp,by simp,by simp,T1,K1⟩ ?_ ?_
 ·rintro dn p rs τ S2 J e ⟨n,x,rfl,n0,b0,b1,b2,b3,T2,K2⟩ hJ
  have hd:dn.length < 3:=by
   have:=congrArg List.length e
   simp [rngI] at this; omega
  simp
  refine draw_wp T2 (by omega) (by decide) (by decide) ?_
  intro n' S3 m0 m1 T3 K3
  simp
  refine hJ _ _ ⟨_,_,rfl,by omega,by simp,?_,?_,?_,by simpa [Nat.add_assoc] using T3,K2.trans K3⟩
  ·intro hl; simp at hl; have:=b0 (by simp [hl]); omega
  ·intro hl; simp at hl; have:=b1 (by omega); omega
  ·intro hl; simp at hl; have:=b2 (by omega); omega
 ·rintro τ S2 ⟨n,x,rfl,n0,b0,b1,b2,b3,T2,K2⟩
  simp
  refine h _ _ n0 (b3 (by simp [rngI])) (T2.up ?_) K2
  simp [rngI]
theorem whole2_wp {t g B:Nat} {S:Sto} (T:Tray t g B S) (hB:B < 10000000000000000) {P:PV→Sto→Prop} {R:Str→PV→Sto→Prop}
  (h:∀ (n:Int) S',SmI n→Tray t g (B + 7) S'→Keep [t,g] S S'→P (.int n) S'):wp (m_q14 [.loc t] S) P R:=by
 unfold m_q14
 rw [callS_wp]
 simp [startE]
 refine draw_wp T (by omega) (by decide) (by decide) ?_
 intro n S1 h0 h1 T1 K1
 simp
 constructor
 ·intro _
  refine great2_wp T1 (by omega) ?_
  intro n2 S2 g0 g1 T2 K2
  simp
  refine draw_wp T2 (by omega) (by decide) (by decide) ?_
  intro n3 S3 c0 c1 T3 K3
  simp
  refine draw_wp T3 (by omega) (by decide) (by decide) ?_
  intro n4 S4 d0 d1 T4 K4
  simp
  refine ⟨by omega,h _ _ ?_ (T4.up (by omega)) (((K1.trans K2).trans K3).trans K4)⟩
  unfold SmI
  obtain rfl | rfl:n4 = 0 ∨ n4 = 1:=by omega
  ·simp; omega
  ·simp; omega
 ·intro _
  have T1':Tray t g (B + 1) (S1 ++ [Ob.lst [PV.int 0,PV.int 1,PV.int 5,PV.int 99,PV.int 100,PV.int (-1),PV.int (-7),PV.int 12]]):=T1.keep (M:=[]) .app (by simp) (by simp)
  refine draw_wp T1' (by omega) (by decide) (by decide) ?_
  intro n2 S2 h0 h1 T2 K2
  have e:=K2.get (app_new (S:=S1) (o:=.lst [PV.int 0,PV.int 1,PV.int 5,PV.int 99,PV.int 100,PV.int (-1),PV.int (-7),PV.int 12])) (by have:=T1.lt; simp; omega)
  simp [e]
  obtain ⟨x,hx,_,hm⟩:=atI_nat (xs:=[PV.int 0,PV.int 1,PV.int 5,PV.int 99,PV.int 100,PV.int (-1),PV.int (-7),PV.int 12]) (i:=n2) h0 (by simpa using h1)
  rw [hx]
  simp
  have:∃ n,x = PV.int n∧SmI n:=by
   simp at hm
   rcases hm with rfl | rfl | rfl | rfl | rfl | rfl | rfl | rfl <;> exact ⟨_,rfl,by unfold SmI; omega⟩
  obtain ⟨n,rfl,hsm⟩:=this
  exact h _ _ hsm (T2.up (by omega)) ((K1.trans .app).trans K2)
theorem namesU_wp {t g B e:Nat} {us:List Str} {S:Sto} {m:Int} (T:Tray t g B S) (hB:B < 1000000000000000) (he:S[e]? = some (.lst (us.map PV.str))) (het:e ≠ t) (heg:e ≠ g) (hus:∀ x ∈ us,Nm x) (hul:us.length ≤ 14) (hm0:0 ≤ m) (hm:m ≤ 6) {P:PV→Sto→Prop} {R:Str→PV→Sto→Prop}
  (h:∀ (n:Nat) (xs:List Str) S',S'[n]? = some (.lst (xs.map PV.str))→S.length ≤ n→(xs.length:Int) = m→xs.Nodup→(∀ x ∈ xs,Nm x)→(∀ x ∈ xs,x ∉ bars)→(∀ x ∈ xs,x ∉ us)→Tray t g (B + 90) S'→Keep [t,g] S S'→P (.loc n) S'):wp (m_q8 [.loc t,.int m,.loc e] S) P R:=by
 unfold m_q8
 rw [callS_wp]
 simp [startE,-zq0,-zq1,-zq2]
 refine lst_wp (by simp) ?_
 intro n S1 e1 k1 hn
 have T1:=T.keep k1 (by simp) (by simp)
 simp [-zq0,-zq1,-zq2]
 have ltT:=T.lt
 have ltE:=lt_of_get he
 refine ⟨by unfold rngOk; omega,?_⟩
 refine for_wp (fun dn rs τ S' => ∃ (xs:List Str) (x:Option PV),τ = [some (.loc t),some (.int m),some (.loc e),some (.loc n),x]∧S'[n]? = some (.lst (xs.map PV.str))∧xs.length = dn.length∧xs.Nodup∧(∀ x ∈ xs,Nm x)∧(∀ x ∈ xs,x ∉ bars)∧(∀ x ∈ xs,x ∉ us)∧Tray t g (B + 15 * dn.length) S'∧Keep [t,g,n] S1 S')
  ⟨[],none,rfl,e1,rfl,List.nodup_nil,by simp,by simp,by simp,T1,.refl⟩ ?_ ?_
 ·rintro dn p rs τ S2 J eq ⟨xs,x,rfl,e2,hl,nd,hN,hb,hu2,T2,k2⟩ hJ
  have hd:dn.length < 6:=by
   have:=congrArg List.length eq
   simp [rngI] at this; omega
  have e2':S2[e]? = some (.lst (us.map PV.str)):=k2.get (k1.get he (by simp)) (by simp [het,heg]; omega)
  simp [e2,-zq0,-zq1,-zq2]
  refine addL_wp e2' e2 (by simp; omega) ?_
  intro u S3 e3 k3 hu
  have T3:=T2.keep k3 (by simp) (by simp)
  have ltT3:=T2.lt
  have ltn:=lt_of_get e2
  refine name_wp (us:=us ++ xs) T3 (by omega) (by rw [e3]; simp) (by omega) (by omega) (fun y hy => by
   rcases List.mem_append.mp hy with q | q
   ·exact hus y q
   ·exact hN y q) (by simp; omega) ?_
  intro x S4 hx hx1 hx2 T4 k4
  have e4:S4[n]? = some (.lst (xs.map PV.str)):=k4.get (k3.get e2 (by simp)) (by simp; omega)
  simp [e4]
  refine ⟨by omega,hJ _ _ ⟨xs ++ [x],_,rfl,?_,by simp [hl],?_,?_,?_,?_,?_,?_⟩⟩
  ·rw [set_get e4]; simp
  ·refine List.nodup_append.mpr ⟨nd,by simp,fun a ha b hb z => ?_⟩
   simp at hb; subst hb; subst z; exact hx1 (List.mem_append_right _ ha)
  ·intro y hy
   rcases List.mem_append.mp hy with q | q
   ·exact hN y q
   ·simp at q; subst q; exact hx
  ·intro y hy
   rcases List.mem_append.mp hy with q | q
   ·exact hb y q
   ·simp at q; subst q; exact hx2
  ·intro y hy
   rcases List.mem_append.mp hy with q | q
   ·exact hu2 y q
   ·simp at q; subst q; exact fun z => hx1 (List.mem_append_left _ z)
  ·have:Tray t g (B + 15 * (dn.length + 1)) S4:=T4.up (by omega)
   simpa using this.keep (M:=[n]) (.set (by simp)) (by simp; omega) (by simp; omega)
  ·exact ((k2.trans (k3.mono (by simp))).trans (k4.mono fun x hx _ => by simp at hx ⊢; omega)).trans (.set (by simp))
 ·rintro τ S2 ⟨xs,x,rfl,e2,hl,nd,hN,hb,hu2,T2,k2⟩
  have hlm:(rngI 0 m).length = m.toNat:=by simp [rngI]
  simp
  refine h n xs S2 e2 hn (by rw [hl,hlm]; omega) nd hN hb hu2 (T2.up (by rw [hlm]; omega)) ?_
  exact ((k1.mono (by simp)).trans k2).mono fun x hx hlt => by simp at hx ⊢; omega
structure Tx12 (x:Str):Prop where
 l:Lw x
 p:1 ≤ x.length
 q:x.length ≤ 12
theorem long_wp {t g B:Nat} {S:Sto} (T:Tray t g B S) (hB:B < 10000000000000000) {P:PV→Sto→Prop} {R:Str→PV→Sto→Prop}
  (h:∀ (x:Str) S',Tx12 x→Tray t g (B + 20) S'→Keep [t,g] S S'→P (.str x) S'):wp (m_q18 [.loc t] S) P R:=by
 unfold m_q18
 rw [callS_wp]
 simp [startE,-zq0,-zq1,-zq2,-zq3,-zq4,-zq5,-zq6]
 refine draw_wp T (by omega) (by decide) (by decide) ?_
 intro n1 S1 a0 a1 T1 K1
 simp [-zq0,-zq1,-zq2,-zq3,-zq4,-zq5,-zq6]
 refine draw_wp T1 (by omega) (by decide) (by decide) ?_
 intro n2 S2 b0 b1 T2 K2
 simp [-zq0,-zq1,-zq2,-zq3,-zq4,-zq5,-zq6]
 refine lst_wp (by simp) ?_
 intro n3 S3 e3 k3 g3
 have lk3:=k3.1
 have T3:=T2.keep k3 (by simp) (by simp)
 simp [-zq0,-zq1,-zq2,-zq3,-zq4,-zq5,-zq6]
 refine draw_wp T3 (by omega) (by decide) (by decide) ?_
 intro n4 S4 c0 c1 T4 K4
 have ltT:=T2.lt
 have e4:=K4.get e3 (by simp; omega)
 have K04:Keep [t,g] S S4:=((K1.trans K2).trans (k3.mono (by simp))).trans K4
 obtain ⟨m,hm,m1,m12⟩:∃ m:Nat,atI [PV.int (1 + n1),PV.int (9 + n2)] n4 = some (.int (m:Int))∧1 ≤ m∧m ≤ 12:=by
  obtain rfl | rfl:n4 = 0 ∨ n4 = 1:=by omega
  ·exact ⟨(1 + n1).toNat,by simp; omega,by omega,by omega⟩
  ·exact ⟨(9 + n2).toNat,by simp; omega,by omega,by omega⟩
 have len26:=abc_len
 simp [e4,hm,-zq0,-zq1,-zq2,-zq3,-zq4,-zq5,-zq6]
 refine ⟨by unfold rngOk; omega,?_⟩
 rw [rngI_0]
 refine accM_wp (fun (i:Nat) => PV.int (i:Int)) (fun dn acc S' => ∃ cs:List Nat,acc = (cs.map one).map PV.str∧cs.length = dn.length∧(∀ c ∈ cs,Lt c)∧Tray t g (B + 3 + dn.length) S'∧Keep [t,g] S S') ⟨[],rfl,rfl,by simp,T4,K04⟩ ?_ ?_
 ·rintro dn i rest acc S5 J hr ⟨cs,rfl,hcs,hLt,T5,K5⟩ hJ
  have hd:=(range_split hr).2
  have hd0:=(range_split hr).1
  refine ⟨by simp,_,rfl,?_⟩
  simp [wipeE,stepE_wp,-zq0,-zq1,-zq2,-zq3,-zq4,-zq5,-zq6]
  refine draw_wp T5 (by omega) (by decide) (by decide) ?_
  intro n6 S6 h0 h1 T6 K6
  obtain ⟨c,hc,hL⟩:=abc_at h0 (by simpa using h1)
  simp [hc,len26,-zq0,-zq1,-zq2,-zq3,-zq4,-zq5,-zq6]
  refine ⟨by omega,hJ _ _ ⟨cs ++ [c],by simp [one],by simp [hcs],?_,by simpa [Nat.add_assoc] using T6,K5.trans K6⟩⟩
  intro d hd
  rcases List.mem_append.mp hd with q | q
  ·exact hLt d q
  ·simp at q; subst q; exact hL
 ·rintro acc S5 ⟨cs,rfl,hcs,hLt,T5,K5⟩
  refine ⟨by simp,new_wp ?_⟩
  intro n6 S6 e6 k6 g6
  have lk6:=k6.1
  have hcl:cs.length = m:=by rw [hcs]; simp
  have hsm:=strsP_map (cs.map one)
  have hsum:((cs.map one).map (·.length)).sum = cs.length:=by
   clear hcs hLt e6 hsm hcl
   induction cs with
   | nil => rfl
   | cons a l ih => simp [one,Str.length] at ih ⊢; omega
  have e2:(Str.ofString "").length = 0:=by decide +kernel
  have hs':((cs.map one).map (·.length)).sum + (cs.map one).length * (Str.ofString "").length ≤ 16777216:=by rw [hsum,e2]; omega
  have hj:ch (Txt.join (Str.ofString "") (cs.map one)) = cs:=by
   rw [empty_str,ch_join0,List.map_map]
   have:∀ l:List Nat,(l.map (ch ∘ one)).flatten = l:=by
    intro l
    induction l with
    | nil => rfl
    | cons a l ih => simp [one,ch] at ih ⊢; exact ih
   exact this cs
  generalize hys:cs.map one = ys at e6 hsm hs' hj
  simp [e6,hsm,hs',-zq0,-zq1,-zq2,-zq3,-zq4,-zq5,-zq6]
  have hlen:(Txt.join (Str.ofString "") ys).length = m:=by rw [← ch_len,hj,hcl]
  refine h _ _ ⟨fun c hc => hLt c (by rw [← hj]; exact hc),by omega,by omega⟩ ((T5.up ?_).keep k6 (by simp) (by simp)) (K5.trans (k6.mono (by simp)))
  simp; omega
theorem Nm.tx {x:Str} (h:Nm x):Tx12 x:=⟨h.l,h.p,by have:=h.q; omega⟩
def tabs:List (Str × Int):=[("sets",3),("copies",3),("adds",3),("reads",2),("cleans",3),("calls",3),("hands",4),("takes",3),("sends",3),("gives",3),("asks",3),("next",3)]
theorem tabs_nd:(tabs.map (·.1)).Nodup:=by
 have:(tabs.map (·.1)) = (["sets", "copies", "adds", "reads", "cleans", "calls", "hands", "takes", "sends", "gives", "asks", "next"]:List String).map Str.ofString:=rfl
 rw [this]
 exact List.Pairwise.map (S:=fun (a b:Str) => a ≠ b) Str.ofString (fun a b (h:a ≠ b) e => h (ofString_inj.mp e)) (by decide)
theorem tables_wp {S:Sto} {P:PV→Sto→Prop} {R:Str→PV→Sto→Prop} (h:∀ n S',S'[n]? = some (.dct (rdP tabs))→Keep [] S S'→S.length ≤ n→P (.loc n) S'):wp (m_q6 [] S) P R:=by
 unfold m_q6
 rw [callS_wp]
 have nd9:((rdP (tabs.take 9)).map (·.1)).Nodup:=by
  have:((rdP (tabs.take 9)).map (·.1)) = ((tabs.map (·.1)).take 9).map Sum.inr:=by simp [rdP,List.map_take,Function.comp_def]
  rw [this]
  exact List.Pairwise.map (S:=fun (a b:Key) => a ≠ b) Sum.inr (fun a b (h:a ≠ b) e => h (by injection e)) (tabs_nd.take)
 have nd12:((rdP tabs).map (·.1)).Nodup:=by
  have:((rdP tabs).map (·.1)) = (tabs.map (·.1)).map Sum.inr:=by simp [rdP,Function.comp_def]
  rw [this]
  exact List.Pairwise.map (S:=fun (a b:Key) => a ≠ b) Sum.inr (fun a b (h:a ≠ b) e => h (by injection e)) tabs_nd
 simp [startE,-zq0,-zq1,-zq2,-zq3,-zq4,-zq5,-zq6]
 refine newD_wp ?_
 intro d S1 e1 k1 g1
 have lk1:=k1.1
 simp [-zq0,-zq1,-zq2,-zq3,-zq4,-zq5,-zq6]
 refine disp_wp (kvs:=rdP (tabs.take 9)) e1 (by rfl) (by decide) ?_
 have m1:mergeP [] (rdP (tabs.take 9)) = rdP (tabs.take 9):=by rw [mergeP_nd _ _ (by simpa using nd9)]; rfl
 rw [m1]
 have e2:(S1.set d (.dct (rdP (tabs.take 9))))[d]? = some (.dct (rdP (tabs.take 9))):=set_get e1
 have k2:Keep [d] S1 (S1.set d (.dct (rdP (tabs.take 9)))):=.set (by simp)
 generalize S1.set d (.dct (rdP (tabs.take 9))) = S2 at e2 k2 ⊢
 simp [e2,-zq0,-zq1,-zq2,-zq3,-zq4,-zq5,-zq6]
 refine newD_wp ?_
 intro d3 S3 e3 k3 g3
 have lk3:=k3.1
 simp [-zq0,-zq1,-zq2,-zq3,-zq4,-zq5,-zq6]
 refine disp_wp (kvs:=rdP (tabs.drop 9)) e3 (by rfl) (by decide) ?_
 have m3:mergeP [] (rdP (tabs.drop 9)) = rdP (tabs.drop 9):=by
  rw [mergeP_nd _ _]; rfl
  have:((rdP (tabs.drop 9)).map (·.1)) = ((tabs.map (·.1)).drop 9).map Sum.inr:=by simp [rdP,List.map_drop,Function.comp_def]
  show ((([]:List (Key × PV)) ++ rdP (tabs.drop 9)).map (·.1)).Nodup
  rw [List.nil_append,this]
  exact List.Pairwise.map (S:=fun (a b:Key) => a ≠ b) Sum.inr (fun a b (h:a ≠ b) e => h (by injection e)) (tabs_nd.drop)
 rw [m3]
 have e4:(S3.set d3 (.dct (rdP (tabs.drop 9))))[d3]? = some (.dct (rdP (tabs.drop 9))):=set_get e3
 have k4:Keep [d3] S3 (S3.set d3 (.dct (rdP (tabs.drop 9)))):=.set (by simp)
 generalize S3.set d3 (.dct (rdP (tabs.drop 9))) = S4 at e4 k4 ⊢
 have lt2:=lt_of_get e2
 have e24:=k4.get (k3.get e2 (by simp)) (by simp; omega)
 have m4:mergeP (rdP (tabs.take 9)) (rdP (tabs.drop 9)) = rdP tabs:=by
  have hh:rdP (tabs.take 9) ++ rdP (tabs.drop 9) = rdP tabs:=by rfl
  rw [mergeP_nd _ _ (by rw [hh]; exact nd12),hh]
 have l9:(rdP (tabs.take 9)).length + (rdP (tabs.drop 9)).length ≤ 16777216:=by decide
 have hne:¬ d = d3:=by omega
 simp [e24,e4,hne,l9,m4,-zq0,-zq1,-zq2,-zq3,-zq4,-zq5,-zq6]
 refine h d _ (set_get e24) ?_ (by omega)
 have kk:Keep [d,d3] S2 S4:=(k3.mono (by simp)).trans (k4.mono (by simp))
 exact (((k1.mono (M':=[d,d3]) (by simp)).trans (k2.mono (by simp))).trans (kk.trans (.set (by simp)))).mono (by intro x hx hlt; have:=k1.1; have:=k2.1; simp at hx; omega)
end K59
namespace K59
open PySem PySem.Spec PyProof.Rows L2 PL RU RQ
open Classical
structure Ln (t g u k:Nat) (us ns:List Str) (S:Sto):Prop where
 eu:S[u]? = some (.lst (us.map PV.str))
 ek:S[k]? = some (.lst (ns.map PV.str))
 ut:u ≠ t
 ug:u ≠ g
 kt:k ≠ t
 kg:k ≠ g
 un:∀ x ∈ us,Nm x
 kn:∀ x ∈ ns,Tx12 x
 ul:us.length ≤ 1000
 kl:ns.length ≤ 1000
theorem Ln.keep {t g u k:Nat} {us ns:List Str} {M:List Nat} {S S':Sto} (l:Ln t g u k us ns S) (h:Keep M S S') (hu:u ∉ M) (hk:k ∉ M):Ln t g u k us ns S':={ l with eu:=h.get l.eu hu,ek:=h.get l.ek hk }
theorem Ln.keep2 {t g u k:Nat} {us ns:List Str} {S S':Sto} (l:Ln t g u k us ns S) (h:Keep [t,g] S S'):Ln t g u k us ns S':=l.keep h (by simp [l.ut,l.ug]) (by simp [l.kt,l.kg])
theorem Ln.keep0 {t g u k:Nat} {us ns:List Str} {S S':Sto} (l:Ln t g u k us ns S) (h:Keep [] S S'):Ln t g u k us ns S':=l.keep h (by simp) (by simp)
theorem gterm_wp {t g B u k:Nat} {us ns:List Str} {S:Sto} (T:Tray t g B S) (hB:B < 10000000000000) (L:Ln t g u k us ns S) {P:PV→Sto→Prop} {R:Str→PV→Sto→Prop}
  (h:∀ (tm:Trm) S',TmOk tm→(∀ x,tm = .name x→x ∈ us)→Tray t g (B + 20) S'→Keep [t,g] S S'→P tm.pv S'):wp (m_q17 [.loc t,.loc u,.loc k] S) P R:=by
 unfold m_q17
 rw [callS_wp]
 have ul:=L.ul
 have kl:=L.kl
 have ltT:=T.lt
 simp [startE,-e_seqS,-zq0,-zq1,-zq2,-zq3,-zq4,-zq5,-zq6]
 have second:∀ S1,Tray t g (B + 1) S1→Keep [t,g] S S1→wpS ((retS (tupM (aC (cV (.str "is")) (aC (binM getP (binM addP (lstM (aC (cV (.int 0)) (aC (cV (.int 1)) (aC (cV (.int 2)) (aC (cV (.int 3)) (aC (cV (.int 4)) (aC (callD m_q14 (aC (vV 0) aN)) aN))))))) (vV 2)) (callD m_q16 (aC (vV 0) (aC (binM addP (cV (.int 6)) (callM (on1 lenP) (aC (vV 2) aN))) aN)))) aN)))) [some (.loc t),some (.loc u),some (.loc k)] S1) (nonK P) P (PL.dropK R):=fun S1 T1 k1 => by
  have L1:=L.keep2 k1
  simp [-zq0,-zq1,-zq2,-zq3,-zq4,-zq5,-zq6]
  refine whole2_wp T1 (by omega) ?_
  intro i S2 hi T2 k2
  have L2:=L1.keep2 k2
  simp [-zq0,-zq1,-zq2,-zq3,-zq4,-zq5,-zq6]
  refine lst_wp (by simp) ?_
  intro n3 S3 e3 k3 g3
  have lk3:=k3.1
  have L3:=L2.keep0 k3
  have T3:=T2.keep k3 (by simp) (by simp)
  have ltT2:=T2.lt
  simp [-zq0,-zq1,-zq2,-zq3,-zq4,-zq5,-zq6]
  refine addL_wp e3 L3.ek (by simp; omega) ?_
  intro n4 S4 e4 k4 g4
  have lk4:=k4.1
  have L4:=L3.keep0 k4
  have T4:=T3.keep k4 (by simp) (by simp)
  have ltT3:=T3.lt
  simp [L4.ek,-zq0,-zq1,-zq2,-zq3,-zq4,-zq5,-zq6]
  refine draw_wp T4 (by omega) (by omega) (by omega) ?_
  intro j S5 j0 j1 T5 k5
  have e5:=k5.get e4 (by simp; omega)
  obtain ⟨x,hx,_,hm⟩:=atI_nat (xs:=[PV.int 0,PV.int 1,PV.int 2,PV.int 3,PV.int 4,PV.int i] ++ ns.map PV.str) (i:=j) j0 (by simp; omega)
  have hx':atI (PV.int 0 :: PV.int 1 :: PV.int 2 :: PV.int 3 :: PV.int 4 :: PV.int i :: ns.map PV.str) j = some x:=hx
  have e5':S5[n4]? = some (.lst (PV.int 0 :: PV.int 1 :: PV.int 2 :: PV.int 3 :: PV.int 4 :: PV.int i :: ns.map PV.str)):=e5
  have K:Keep [t,g] S S5:=(((k1.trans k2).trans (k3.mono (by simp))).trans (k4.mono (by simp))).trans k5
  simp [e5',hx',-zq0,-zq1,-zq2,-zq3,-zq4,-zq5,-zq6]
  have:∃ tm:Trm,TmOk tm∧(∀ x,tm = .name x→x ∈ us)∧tm.pv = .tup [.str "is",x]:=by
   have sm:∀ i:Int,SmI i→∃ tm:Trm,TmOk tm∧(∀ x,tm = .name x→x ∈ us)∧tm.pv = .tup [.str "is",.int i]:=fun i hi => ⟨.num i,hi,(by intro x hx; cases hx),rfl⟩
   simp at hm
   rcases hm with rfl | rfl | rfl | rfl | rfl | rfl | ⟨y,hy,rfl⟩
   ·exact sm _ (by unfold SmI; omega)
   ·exact sm _ (by unfold SmI; omega)
   ·exact sm _ (by unfold SmI; omega)
   ·exact sm _ (by unfold SmI; omega)
   ·exact sm _ (by unfold SmI; omega)
   ·exact sm _ hi
   ·have:=L.kn y hy
    exact ⟨.txt y,⟨this.l,this.p,this.q⟩,(by intro x hx; cases hx),rfl⟩
  obtain ⟨tm,q1,q2,q3⟩:=this
  rw [← q3]
  exact h tm S5 q1 q2 (T5.up (by omega)) K
 by_cases hne:us = []
 ·have hu:=L.eu
  rw [hne] at hu
  have hu:S[u]? = some (.lst []):=hu
  refine seq_split (fun τ S' => Keep [t,g] S S'∧Tray t g (B + 1) S'∧τ = [some (.loc t),some (.loc u),some (.loc k)]) ?_ ?_
  ·simp [-zq0,-zq1,-zq2,-zq3,-zq4,-zq5,-zq6]
   refine lst_wp (by simp) ?_
   intro n1 S1 e1 k1 g1
   have lk1:=k1.1
   simp [k1.get hu (by simp),e1,-zq0,-zq1,-zq2,-zq3,-zq4,-zq5,-zq6]
   exact ⟨k1.mono (by simp),(T.keep k1 (by simp) (by simp)).up (by omega)⟩
  ·rintro τ S1 ⟨k1,T1,rfl⟩
   exact second S1 T1 k1
 ·have hne2:¬ (us.map PV.str) = []:=by simpa using hne
  have hpos:0 < us.length:=List.length_pos_iff.mpr hne
  refine seq_split (fun τ S' => Keep [t,g] S S'∧Tray t g (B + 1) S'∧τ = [some (.loc t),some (.loc u),some (.loc k)]) ?_ ?_
  ·simp [-zq0,-zq1,-zq2,-zq3,-zq4,-zq5,-zq6]
   refine lst_wp (by simp) ?_
   intro n1 S1 e1 k1 g1
   have lk1:=k1.1
   have L1:=L.keep0 k1
   have T1:=T.keep k1 (by simp) (by simp)
   simp [L1.eu,e1,hne,-zq0,-zq1,-zq2,-zq3,-zq4,-zq5,-zq6]
   refine draw_wp T1 (by omega) (by decide) (by decide) ?_
   intro n2 S2 a0 a1 T2 k2
   have L2:=L1.keep2 k2
   have K02:Keep [t,g] S S2:=(k1.mono (by simp)).trans k2
   simp [-zq0,-zq1,-zq2,-zq3,-zq4,-zq5,-zq6]
   refine ⟨fun hp => ?_,fun hp => ⟨K02,T2⟩⟩
   simp [L2.eu,-zq0,-zq1,-zq2,-zq3,-zq4,-zq5,-zq6]
   refine draw_wp T2 (by omega) (by omega) (by omega) ?_
   intro j S3 j0 j1 T3 k3
   have L3:=L2.keep2 k3
   obtain ⟨x,hx,_,hm⟩:=atI_nat (xs:=us.map PV.str) (i:=j) j0 (by simpa using j1)
   obtain ⟨y,hy,rfl⟩:=List.mem_map.mp hm
   simp [L3.eu,hx,-zq0,-zq1,-zq2,-zq3,-zq4,-zq5,-zq6]
   exact h (.name y) S3 (L.un y hy) (fun x hx => by cases hx; exact hy) (T3.up (by omega)) (K02.trans k3)
  ·rintro τ S1 ⟨k1,T1,rfl⟩
   exact second S1 T1 k1
theorem gterms_wp {t g B u k m us16:Nat} {us ns:List Str} {τ : PL.En} {S:Sto} (T:Tray t g B S) (hm:m ≤ 10) (hB:B < 1000000000000) (L:Ln t g u k us ns S) (h0 : τ[0]? = some (some (.loc t))) (hu : τ[us16]? = some (some (.loc u))) (h3 : τ[3]? = some (some (.loc k))) (h16:16 < τ.length) (hus:us16 < 16)
  {P:List PV→Sto→Prop} {R:Str→PV→Sto→Prop}
  (h:∀ (ts:List Trm) S',ts.length = m→(∀ tm ∈ ts,TmOk tm)→(∀ x,Trm.name x ∈ ts→x ∈ us)→Tray t g (B + 20 * m) S'→Keep [t,g] S S'→P (ts.map Trm.pv) S') :
  wp (accL ⟨rngI 0 (m:Int),[]⟩ (gN 16) (stepE yesM (callD m_q17 (aC (vV 0) (aC (vV us16) (aC (vV 3) aN))))) [] (rngI 0 (m:Int)) (wipeE τ [16]) S) P R:=by
 have e:rngI 0 (m:Int) = (List.range m).map fun (i:Nat) => PV.int (i:Int):=rngI_0 m
 rw [e]
 refine accM_wp (fun (i:Nat) => PV.int (i:Int)) (fun dn acc S' => ∃ ts:List Trm,acc = ts.map Trm.pv∧ts.length = dn.length∧(∀ tm ∈ ts,TmOk tm)∧(∀ x,Trm.name x ∈ ts→x ∈ us)∧Tray t g (B + 20 * dn.length) S'∧Keep [t,g] S S') ⟨[],rfl,rfl,by simp,by simp,T,.refl⟩ ?_ ?_
 ·rintro dn i rest acc S5 J hr ⟨ts,rfl,hl,hok,hnm,T5,k5⟩ hJ
  have hd:=(range_split hr).2
  have hd0:=(range_split hr).1
  refine ⟨by simp,_,rfl,?_⟩
  have L5:=L.keep2 k5
  have q0:((wipeE τ [16]).set 16 (some (PV.int (i:Int))))[0]? = some (some (.loc t)):=by simp [wipeE,List.getElem?_set,h0]
  have q3:((wipeE τ [16]).set 16 (some (PV.int (i:Int))))[3]? = some (some (.loc k)):=by simp [wipeE,List.getElem?_set,h3]
  have qu:((wipeE τ [16]).set 16 (some (PV.int (i:Int))))[us16]? = some (some (.loc u)):=by
   simp [wipeE,List.getElem?_set,hu]
   omega
  rw [stepE_wp]
  generalize (wipeE τ [16]).set 16 (some (PV.int (i:Int))) = τ' at q0 q3 qu ⊢
  simp [q0,q3,qu,-zq0,-zq1,-zq2,-zq3,-zq4,-zq5,-zq6]
  refine gterm_wp T5 (by omega) L5 ?_
  intro tm S6 htm hx T6 k6
  simp [-zq0,-zq1,-zq2,-zq3,-zq4,-zq5,-zq6]
  refine ⟨by omega,hJ _ _ ⟨ts ++ [tm],by simp,by simp [hl],fun q hq => ?_,fun x hx2 => ?_,by simpa [Nat.mul_add,Nat.add_assoc] using T6,k5.trans k6⟩⟩
  ·rcases List.mem_append.mp hq with hq | hq
   ·exact hok q hq
   ·simp at hq; subst hq; exact htm
  ·rcases List.mem_append.mp hx2 with hq | hq
   ·exact hnm x hq
   ·simp at hq; exact hx x hq.symm
 ·rintro acc S5 ⟨ts,rfl,hl,hok,hnm,T5,k5⟩
  refine ⟨by simp,?_⟩
  have hl:ts.length = m:=by rw [hl]; simp
  exact h ts S5 hl hok hnm (by simpa using T5) k5
theorem free_names_wp {t g B:Nat} {S:Sto} (T:Tray t g B S) (hB:B < 1000000000000) {P:PV→Sto→Prop} {R:Str→PV→Sto→Prop}
  (h:∀ (n:Nat) (xs:List Str) S',S'[n]? = some (.lst (xs.map PV.str))→(∀ x ∈ xs,Nm x)→xs.length = 4→S.length ≤ n→Tray t g (B + 100) S'→Keep [t,g] S S'→P (.loc n) S'):wp (m_q2 [.loc t] S) P R:=by
 unfold m_q2
 rw [callS_wp]
 have ltT:=T.lt
 simp [startE,-zq0,-zq1,-zq2,-zq3,-zq4,-zq5,-zq6]
 refine lst_wp (by simp) ?_
 intro n1 S1 e1 k1 g1
 have lk1:=k1.1
 have T1:=T.keep k1 (by simp) (by simp)
 simp [-zq0,-zq1,-zq2,-zq3,-zq4,-zq5,-zq6]
 refine namesU_wp (us:=[]) T1 (by omega) e1 (by omega) (by omega) (by simp) (by simp) (by decide) (by decide) ?_
 intro n2 xs S2 e2 g2 hxl _ hxn _ _ T2 k2
 have hxl:xs.length = 4:=by omega
 have K02:Keep [t,g] S S2:=(k1.mono (by simp)).trans k2
 simp [-zq0,-zq1,-zq2,-zq3,-zq4,-zq5,-zq6]
 refine draw_wp T2 (by omega) (by decide) (by decide) ?_
 intro n3 S3 a0 a1 T3 k3
 have ltT2:=T2.lt
 have ltT1:=T1.lt
 have e3:=k3.get e2 (by simp; omega)
 simp [-zq0,-zq1,-zq2,-zq3,-zq4,-zq5,-zq6]
 refine ⟨fun _ => ?_,fun _ => h n2 xs S3 e3 hxn hxl (by omega) (T3.up (by omega)) (K02.trans k3)⟩
 refine lst_wp (by simp) ?_
 intro n4 S4 e4 k4 g4
 have lk4:=k4.1
 have T4:=T3.keep k4 (by simp) (by simp)
 have ltT3:=T3.lt
 simp [-zq0,-zq1,-zq2,-zq3,-zq4,-zq5,-zq6]
 refine draw_wp T4 (by omega) (by decide) (by decide) ?_
 intro n5 S5 b0 b1 T5 k5
 have e5:=k5.get e4 (by simp; omega)
 have ltT4:=T4.lt
 obtain ⟨x,hx,_,hm⟩:=atI_nat (xs:=(["end", "if", "not", "read", "else", "def"]:List Str).map PV.str) (i:=n5) b0 (by simpa using b1)
 obtain ⟨y,hy,rfl⟩:=List.mem_map.mp hm
 have hyn:Nm y:=by
  have:∀ y ∈ (["end", "if", "not", "read", "else", "def"]:List Str),(∀ c ∈ ch y,97 ≤ c∧c ≤ 122)∧1 ≤ y.length∧y.length ≤ 8:=by decide +kernel
  obtain ⟨q1,q2,q3⟩:=this y hy
  exact ⟨q1,q2,q3⟩
 simp only [List.map_cons,List.map_nil] at hx
 simp [e5,hx,-zq0,-zq1,-zq2,-zq3,-zq4,-zq5,-zq6]
 refine draw_wp T5 (by omega) (by decide) (by decide) ?_
 intro n6 S6 c0 c1 T6 k6
 have e26:=k6.get (k5.get (k4.get e3 (by simp)) (by simp; omega)) (by simp; omega)
 have hix:ixN (xs.map PV.str).length n6 = some n6.toNat:=by
  unfold ixN
  rw [if_pos c0,if_pos (by simp [hxl]; omega)]
 have hix':ixN xs.length n6 = some n6.toNat:=by simpa using hix
 simp [e26,hix',-zq0,-zq1,-zq2,-zq3,-zq4,-zq5,-zq6]
 have hset:(xs.map PV.str).set n6.toNat (.str y) = (xs.set n6.toNat y).map PV.str:=by rw [List.map_set]
 refine h n2 (xs.set n6.toNat y) _ (by rw [set_get e26,hset]) (fun z hz => ?_) (by simp [hxl]) (by omega) (T6.up (by omega) |>.keep (M:=[n2]) (.set (by simp)) (by simp; omega) (by simp; omega)) ?_
 ·rcases List.mem_or_eq_of_mem_set hz with q | q
  ·exact hxn z q
  ·rw [q]; exact hyn
 ·exact ((((K02.trans k3).trans (k4.mono (by simp))).trans k5).trans k6).mono (M':=[t,g,n2]) (by simp) |>.trans (.set (by simp)) |>.mono (by intro x hx hlt; simp at hx ⊢; omega)
end K59
namespace RQ
open PySem PySem.Spec PL L2 PyProof.Rows TL RU
open Classical
structure Drawn (rk rm:Str→Nat) (r:Rul):Prop where
 ok:RuOk r
 nh:¬ IsRoom r.1.1
 pm:∀ p ∈ parts r,p.2.length = rm p.1
 lv:∀ l ∈ r.2,IsRoom l.1 ∨ (l.2.2 = true∧rk l.1 ≤ rk r.1.1) ∨ rk l.1 < rk r.1.1
 bd:¬ Loose r
 few:r.2.length ≤ 5
 tm:∀ p ∈ parts r,p.2.length ≤ 7
theorem mem_links {rs:List Rul} {a b:Str} {n:Bool} (h:(a,b,n) ∈ links rs):∃ r ∈ rs,∃ l ∈ r.2,IsHead rs l.1∧a = r.1.1∧b = l.1∧n = !l.2.2:=by
 obtain ⟨r,hr,h⟩:=List.mem_flatMap.mp h
 obtain ⟨l,hl,e⟩:=List.mem_map.mp h
 obtain ⟨hl1,hl2⟩:=List.mem_filter.mp hl
 simp only [Prod.mk.injEq] at e
 exact ⟨r,hr,l,hl1,of_decide_eq_true hl2,e.1.symm,e.2.1.symm,e.2.2.symm⟩
theorem fault_drawn {rk rm:Str→Nat} {rs:List Rul} (h:∀ r ∈ rs,Drawn rk rm r) (hm:agK rm rooms):fault rs = none:=by
 have nh:∀ x,IsHead rs x→¬ IsRoom x:=by
  rintro x ⟨r,hr,rfl⟩
  exact (h r hr).nh
 have step:∀ {a b n},(a,b,n) ∈ links rs→rk b ≤ rk a∧(n = true→rk b < rk a):=by
  intro a b n hk
  obtain ⟨r,hr,l,hlm,hh,rfl,rfl,rfl⟩:=mem_links hk
  rcases (h r hr).lv l hlm with q | ⟨q1,q2⟩ | q
  ·exact absurd q (nh _ hh)
  ·exact ⟨q2,fun z => by rw [q1] at z; cases z⟩
  ·exact ⟨by omega,fun _ => q⟩
 have rch:∀ {a b},Rch (links rs) a b→rk b ≤ rk a:=by
  intro a b hr
  induction hr with
  | refl => exact Nat.le_refl _
  | step _ m ih => have:=(step m).1; omega
 unfold fault
 rw [if_neg,if_neg,if_neg,if_neg]
 ·rintro ⟨⟨a,b,n⟩,hk,hn,hr⟩
  have h1:=(step hk).2 hn
  have h2:=rch hr
  simp only at h2
  omega
 ·rintro ⟨r,hr,hl⟩
  exact (h r hr).bd hl
 ·intro hmany
  apply hmany
  refine ⟨rm,hm,fun p hp => ?_⟩
  obtain ⟨r,hr,hp⟩:=List.mem_flatMap.mp hp
  exact ((h r hr).pm p hp).symm
 ·rintro ⟨r,hr,hx⟩
  exact (h r hr).nh hx
theorem Drawn.put {rk rm:Str→Nat} {r:Rul} {z:Str} {k:Nat} (d:Drawn rk rm r) (hz:∀ p ∈ parts r,p.1 ≠ z):Drawn rk (fun x => if x = z then k else rm x) r :=
 ⟨d.ok,d.nh,fun p hp => (d.pm p hp).trans (if_neg (hz p hp)).symm,d.lv,d.bd,d.few,d.tm⟩
theorem nS_61 {i:Int} (h:SmI i):(nS i).length ≤ 61:=(nS_int i h).2.1
theorem tmT_len {t:Trm} (h:TmOk t):(tmT t).length ≤ 61:=by
 cases t with
 | name x =>
  have h:Nm x:=h
  have:=h.q
  show (Str.ofString "?" ++ x).length ≤ 61
  have q1:(Str.ofString "?").length = 1:=by decide +kernel
  rw [app_len,q1]; omega
 | num i => exact nS_61 h
 | txt x =>
  have h:Lw x∧1 ≤ x.length∧x.length ≤ 12:=h
  show (Str.ofString "'" ++ x ++ Str.ofString "'").length ≤ 61
  have q1:(Str.ofString "'").length = 1:=by decide +kernel
  rw [app_len,app_len,q1]; omega
theorem atT_len {a:Atm} (h:AtOk a) (hl:a.2.length ≤ 7):(atT a).length ≤ 496:=by
 have h1:=join_le (s:=Str.ofString " ") (ys:=a.1 :: a.2.map tmT) (k:=61) fun y hy => by
  rcases List.mem_cons.mp hy with rfl | hy
  ·have:=h.1.1.q; omega
  ·obtain ⟨t,ht,rfl⟩:=List.mem_map.mp hy
   exact tmT_len (h.2 t ht)
 have q1:(Str.ofString " ").length = 1:=by decide +kernel
 rw [q1] at h1
 simp only [List.length_cons,List.length_map] at h1
 show (Txt.join (Str.ofString " ") (a.1 :: a.2.map tmT)).length ≤ 496
 have:(a.2.length + 1) * (61 + 1) ≤ 8 * 62:=Nat.mul_le_mul (by omega) (by omega)
 omega
theorem liT_len {l:Lit} (h:AtOk (liA l)) (hl:l.2.1.length ≤ 7):(liT l).length ≤ 500:=by
 have:=atT_len h hl
 have q1:(Str.ofString "not ").length = 4:=by decide +kernel
 unfold liT
 split
 ·omega
 ·rw [app_len,q1]; omega
theorem ruT_len {rk rm:Str→Nat} {r:Rul} (d:Drawn rk rm r):(ruT r).length ≤ 3100:=by
 have ha:=atT_len d.ok.1 (d.tm _ (by simp [parts]))
 have q1:(Str.ofString " if ").length = 4:=by decide +kernel
 have q2:(Str.ofString ", ").length = 2:=by decide +kernel
 unfold ruT
 split
 ·omega
 ·have h1:=join_le (s:=Str.ofString ", ") (ys:=r.2.map liT) (k:=500) fun y hy => by
   obtain ⟨l,hl,rfl⟩:=List.mem_map.mp hy
   exact liT_len (d.ok.2 l hl) (d.tm (liA l) (List.mem_cons_of_mem _ (List.mem_map_of_mem hl)))
  rw [q2,List.length_map] at h1
  have:=d.few
  have:r.2.length * (500 + 2) ≤ 5 * 502:=Nat.mul_le_mul (by omega) (by omega)
  rw [app_len,app_len,q1]
  omega
theorem rsT_len {rk rm:Str→Nat} {rs:List Rul} (h:∀ r ∈ rs,Drawn rk rm r) (hl:rs.length ≤ 12):(rsT rs).length ≤ 40000:=by
 unfold rsT
 split
 ·have:(Str.ofString "-").length = 1:=by decide +kernel
  omega
 ·have h1:=join_le (s:=Str.ofString "; ") (ys:=rs.map ruT) (k:=3100) fun y hy => by
   obtain ⟨l,hl,rfl⟩:=List.mem_map.mp hy
   exact ruT_len (h l hl)
  have q2:(Str.ofString "; ").length = 2:=by decide +kernel
  rw [q2,List.length_map] at h1
  have:rs.length * (3100 + 2) ≤ 12 * 3102:=Nat.mul_le_mul (by omega) (by omega)
  omega
end RQ
namespace K59
open PySem PySem.Spec PyProof.Rows L2 PL RU RQ
open Classical
def hsP (h:Str × Nat):PV:=.tup [.str h.1,.int (h.2:Int)]
structure HsOk (rk rm:Str→Nat) (hs:List (Str × Nat)):Prop where
 nd:(hs.map (·.1)).Nodup
 ok:∀ h ∈ hs,RlOk h.1∧¬ IsRoom h.1
 rki:∀ (i:Nat) h,hs[i]? = some h→rk h.1 = i
 rme:∀ h ∈ hs,rm h.1 = h.2
 sm:∀ h ∈ hs,h.2 ≤ 6
 ag:agK rm rooms
 few:hs.length ≤ 3
theorem tab_room {x:Str} {v:Int} (h:(x,v) ∈ tabs):(x,v) ∈ rooms:=by
 simp only [tabs,rooms,List.mem_cons,List.not_mem_nil,or_false] at h ⊢
 rcases h with h | h | h | h | h | h | h | h | h | h | h | h <;> simp [h]
theorem tab_same {x:Str} {v:Int} (h:(x,v) ∈ tabs):x ≠ Str.ofString "same" := by
 have:∀ q ∈ tabs,q.1 ≠ Str.ofString "same" := by decide +kernel
 exact this _ h
theorem room_ok {x:Str} {v:Int} (h:(x,v) ∈ rooms):RlOk x∧0 ≤ v∧v ≤ 4:=by
 have:∀ q ∈ rooms,((∀ c ∈ ch q.1,97 ≤ c∧c ≤ 122)∧1 ≤ q.1.length∧q.1.length ≤ 8)∧(q.1 ≠ Str.ofString "if"∧q.1 ≠ Str.ofString "not")∧0 ≤ q.2∧q.2 ≤ 4:=by decide +kernel
 obtain ⟨⟨a,b,c⟩,⟨d,e⟩,f⟩:=this _ h
 exact ⟨⟨⟨a,b,c⟩,d,e⟩,f⟩
def WdOk (hs:List (Str × Nat)) (k:Nat) (w:Str):Prop:=(∃ v,(w,v) ∈ tabs) ∨ ∃ (j:Nat) (n:Nat),j < k∧hs[j]? = some (w,n)
theorem WdOk.up {hs:List (Str × Nat)} {k k':Nat} {w:Str} (h:WdOk hs k w) (hk:k ≤ k'):WdOk hs k' w:=by
 rcases h with h | ⟨j,n,h1,h2⟩
 ·exact .inl h
 ·exact .inr ⟨j,n,by omega,h2⟩
theorem WdOk.rl {rk rm:Str→Nat} {hs:List (Str × Nat)} {k:Nat} {w:Str} (H:HsOk rk rm hs) (h:WdOk hs k w):RlOk w∧rm w ≤ 6∧w ≠ Str.ofString "same" := by
 rcases h with ⟨v,h⟩ | ⟨j,n,h1,h2⟩
 ·have:=room_ok (tab_room h)
  have h2:=H.ag _ (tab_room h)
  simp only at h2
  exact ⟨this.1,by omega,tab_same h⟩
 ·have hm:=List.mem_of_getElem? h2
  refine ⟨(H.ok _ hm).1,by have:=H.rme _ hm; have:=H.sm _ hm; simp only at *; omega,fun z => (H.ok _ hm).2 ⟨("same",2),by simp [rooms],z.symm⟩⟩
theorem find_nd {β : Type} {w:Str} {n : β}:∀ {hs:List (Str × β)},(hs.map (·.1)).Nodup→(w,n) ∈ hs→(hs.find? fun y => decide (y.1 = w)) = some (w,n)
 | [],_,h => by cases h
 | (x,k) :: r,nd,h => by
  simp only [List.map_cons,List.nodup_cons] at nd
  rw [List.find?_cons]
  by_cases e:x = w
  ·subst e
   rcases List.mem_cons.mp h with q | q
   ·cases q; simp
   ·exact absurd (List.mem_map.mpr ⟨_,q,rfl⟩) nd.1
  ·rcases List.mem_cons.mp h with q | q
   ·cases q; exact absurd rfl e
   ·simp only [decide_eq_false e]
    exact find_nd nd.2 q
theorem mem_ins2 {α : Type} {xs:List α} {x y : α} {i:Nat}:y ∈ xs.take i ++ [x] ++ xs.drop i↔y = x ∨ y ∈ xs:=by
 have h:y ∈ xs↔y ∈ xs.take i ∨ y ∈ xs.drop i:=by rw [← List.mem_append,List.take_append_drop]
 rw [h]
 simp only [List.mem_append,List.mem_singleton]
 constructor
 ·rintro ((q | q) | q)
  ·exact .inr (.inl q)
  ·exact .inl q
  ·exact .inr (.inr q)
 ·rintro (q | q | q)
  ·exact .inl (.inr q)
  ·exact .inl (.inl q)
  ·exact .inr q
theorem many_wp {rk rm:Str→Nat} {hs:List (Str × Nat)} {k:Nat} {w:Str} (H:HsOk rk rm hs) (hw:WdOk hs k w) {d hl:Nat} {τ : PL.En} {S:Sto} (eh:S[hl]? = some (.lst (hs.map hsP))) (ed:S[d]? = some (.dct (rdP tabs))) (t1 : τ[1]? = some (some (.loc hl))) (t4 : τ[4]? = some (some (.loc d))) (t12 : τ[12]? = some (some (.str w))) {P:PV→Sto→Prop} {R:Str→PV→Sto→Prop}
  (h:∀ S',Keep [] S S'→P (.int (rm w:Nat)) S'):wp (m2M get2P (vV 4) (vV 12) (m2M get2P (callM (on1 dictLP) (aC (vV 1) aN)) (vV 12) (cV (.int 0))) τ S) P R:=by
 simp [t4,t12,t1,ed,-zq0,-zq1,-zq2,-zq3,-zq4,-zq5,-zq6]
 have hpr:pairsP (hs.map hsP) = some (hs.map fun x:Str × Nat => ((.inr x.1:Key),PV.int (x.2:Int))):=pairsP_map (fun x:Str × Nat => x.1) (fun x => PV.int (x.2:Int)) hs
 refine dictL_wp eh hpr ?_
 intro n1 S1 e1 k1 g1
 have lk1:=k1.1
 have nd:((([]:List (Key × PV)) ++ hs.map fun x:Str × Nat => ((.inr x.1:Key),PV.int (x.2:Int))).map (·.1)).Nodup:=by
  rw [List.nil_append,List.map_map]
  have:(hs.map ((·.1) ∘ fun x:Str × Nat => ((.inr x.1:Key),PV.int (x.2:Int)))) = (hs.map (·.1)).map Sum.inr:=by rw [List.map_map]; rfl
  rw [this]
  exact List.Pairwise.map (S:=fun (a b:Key) => a ≠ b) Sum.inr (fun a b (h:a ≠ b) e => h (by injection e)) H.nd
 rw [mergeP_nd _ _ nd,List.nil_append] at e1
 have ed1:=k1.get ed (by simp)
 have hval:=valP_map (fun x:Str × Nat => x.1) (fun x => PV.int (x.2:Int)) w hs
 have fin:=h S1 k1
 rcases hw with ⟨v,hv⟩ | ⟨j,n,hj,hjn⟩
 ·have h1:valP (rdP tabs) (.inr w) = some (.int v):=by rw [rdP_val,mem_lookup tabs_nd hv]; rfl
  have h2:=H.ag _ (tab_room hv)
  simp only at h2
  simp [t12,e1,ed1,h1,-zq0,-zq1,-zq2,-zq3,-zq4,-zq5,-zq6]
  rw [h2] at fin
  exact fin
 ·have hm:=List.mem_of_getElem? hjn
  have hno:tabs.lookup w = none:=by
   cases q:tabs.lookup w with
   | none => rfl
   | some v => exact absurd ⟨_,tab_room (lookup_mem q),rfl⟩ (H.ok _ hm).2
  have h1:valP (rdP tabs) (.inr w) = none:=by rw [rdP_val,hno]; rfl
  have hf:(hs.find? fun y => decide (y.1 = w)) = some (w,n):=find_nd H.nd hm
  rw [hf] at hval
  have h2:=H.rme _ hm
  simp only at h2
  simp [t12,e1,ed1,h1,hval,-zq0,-zq1,-zq2,-zq3,-zq4,-zq5,-zq6]
  rw [h2] at fin
  exact fin
end K59
namespace K59
open PySem PySem.Spec PyProof.Rows L2 PL RU RQ
open Classical
structure Ev4 (t g hl nl d wl fl:Nat) (hs:List (Str × Nat)) (ns ws us:List Str) (S:Sto):Prop where
 eh:S[hl]? = some (.lst (hs.map hsP))
 en:S[nl]? = some (.lst (ns.map PV.str))
 ed:S[d]? = some (.dct (rdP tabs))
 ew:S[wl]? = some (.lst (ws.map PV.str))
 ef:S[fl]? = some (.lst (us.map PV.str))
 ne:(hl ≠ t∧hl ≠ g)∧(nl ≠ t∧nl ≠ g)∧(d ≠ t∧d ≠ g)∧(wl ≠ t∧wl ≠ g)∧(fl ≠ t∧fl ≠ g)
 w12:ws.length = 12
 wt:∀ w ∈ ws,∃ v,(w,v) ∈ tabs
 un:∀ x ∈ us,Nm x
 u4:us.length = 4
 kn:∀ x ∈ ns,Tx12 x
 kl:ns.length ≤ 1000
theorem Ev4.keep {t g hl nl d wl fl:Nat} {hs:List (Str × Nat)} {ns ws us:List Str} {M:List Nat} {S S':Sto} (e:Ev4 t g hl nl d wl fl hs ns ws us S) (k:Keep M S S') (hM:∀ x ∈ M,x ≠ hl∧x ≠ nl∧x ≠ d∧x ≠ wl∧x ≠ fl):Ev4 t g hl nl d wl fl hs ns ws us S' :=
 {e with eh:=k.get e.eh (fun z => (hM _ z).1 rfl),en:=k.get e.en (fun z => (hM _ z).2.1 rfl),ed:=k.get e.ed (fun z => (hM _ z).2.2.1 rfl),ew:=k.get e.ew (fun z => (hM _ z).2.2.2.1 rfl),ef:=k.get e.ef (fun z => (hM _ z).2.2.2.2 rfl) }
theorem Ev4.keep0 {t g hl nl d wl fl:Nat} {hs:List (Str × Nat)} {ns ws us:List Str} {S S':Sto} (e:Ev4 t g hl nl d wl fl hs ns ws us S) (k:Keep [] S S'):Ev4 t g hl nl d wl fl hs ns ws us S':=e.keep k (by simp)
theorem Ev4.keep2 {t g hl nl d wl fl:Nat} {hs:List (Str × Nat)} {ns ws us:List Str} {S S':Sto} (e:Ev4 t g hl nl d wl fl hs ns ws us S) (k:Keep [t,g] S S'):Ev4 t g hl nl d wl fl hs ns ws us S':=e.keep k fun x hx => by
 obtain ⟨⟨a,b⟩,⟨c,d⟩,⟨e,f⟩,⟨g,h⟩,⟨i,j⟩⟩:=e.ne
 simp at hx
 rcases hx with rfl | rfl
 ·exact ⟨a.symm,c.symm,e.symm,g.symm,i.symm⟩
 ·exact ⟨b.symm,d.symm,f.symm,h.symm,j.symm⟩
theorem Ev4.lt {t g hl nl d wl fl:Nat} {hs:List (Str × Nat)} {ns ws us:List Str} {S:Sto} (e:Ev4 t g hl nl d wl fl hs ns ws us S):hl < S.length∧nl < S.length∧d < S.length∧wl < S.length∧fl < S.length:=⟨lt_of_get e.eh,lt_of_get e.en,lt_of_get e.ed,lt_of_get e.ew,lt_of_get e.ef⟩
structure Bod (rk rm:Str→Nat) (k:Nat) (bs:List Lit) (ks:List Str):Prop where
 ok:∀ l ∈ bs,AtOk (liA l)∧l.2.1.length = rm l.1∧l.2.1.length ≤ 7
 lv:∀ l ∈ bs,IsRoom l.1 ∨ (l.2.2 = true∧rk l.1 ≤ k) ∨ rk l.1 < k
 nm:∀ l ∈ bs,∀ x ∈ nmsOf l.2.1,x ∈ ks
 kn:∀ x ∈ ks,x ∈ knowns bs
 un:∀ x ∈ ks,Nm x
theorem Bod.start {rk rm:Str→Nat} {k:Nat}:Bod rk rm k [] []:=⟨by simp,by simp,by simp,by simp,by simp⟩
theorem Bod.ask {rk rm:Str→Nat} {k:Nat} {bs:List Lit} {ks:List Str} {w:Str} {ts:List Trm} {hs:List (Str × Nat)} (H:HsOk rk rm hs) (b:Bod rk rm k bs ks) (hw:WdOk hs (k + 1) w) (ht:∀ t ∈ ts,TmOk t) (hl:ts.length = rm w):Bod rk rm k (bs ++ [(w,ts,true)]) (ks ++ nmsOf ts):=by
 obtain ⟨r1,r2,r3⟩:=hw.rl H
 have hn:∀ x ∈ nmsOf ts,Nm x:=fun x hx => ht _ (mem_nms.mp hx)
 refine ⟨fun l hm => ?_,fun l hm => ?_,fun l hm x hx => ?_,fun x hx => ?_,fun x hx => ?_⟩
 ·rcases List.mem_append.mp hm with q | q
  ·exact b.ok l q
  ·simp at q; subst q; exact ⟨⟨r1,ht⟩,hl,by show ts.length ≤ 7; omega⟩
 ·rcases List.mem_append.mp hm with q | q
  ·exact b.lv l q
  ·simp at q; subst q
   rcases hw with ⟨v,hv⟩ | ⟨j,n,h1,h2⟩
   ·exact .inl ⟨_,tab_room hv,rfl⟩
   ·have:=H.rki j _ h2
    simp only at this
    exact .inr (.inl ⟨rfl,by simp only; omega⟩)
 ·rcases List.mem_append.mp hm with q | q
  ·exact List.mem_append_left _ (b.nm l q x hx)
  ·simp at q; subst q; exact List.mem_append_right _ hx
 ·rw [knowns_app]
  rcases List.mem_append.mp hx with q | q
  ·exact List.mem_append_left _ (b.kn x q)
  ·refine List.mem_append_right _ ?_
   have:isAsk (w,ts,true) = true:=by simp [isAsk,r3]
   simp [knowns,this,q]
 ·rcases List.mem_append.mp hx with q | q
  ·exact b.un x q
  ·exact hn x q
theorem Bod.ins {rk rm:Str→Nat} {k i:Nat} {bs:List Lit} {ks:List Str} {l:Lit} (b:Bod rk rm k bs ks) (ok:AtOk (liA l)∧l.2.1.length = rm l.1∧l.2.1.length ≤ 7) (lv:IsRoom l.1 ∨ (l.2.2 = true∧rk l.1 ≤ k) ∨ rk l.1 < k) (nm:∀ x ∈ nmsOf l.2.1,x ∈ ks):Bod rk rm k (bs.take i ++ [l] ++ bs.drop i) ks:=by
 refine ⟨fun q hq => ?_,fun q hq => ?_,fun q hq => ?_,fun x hx => ?_,b.un⟩
 ·rcases mem_ins2.mp hq with rfl | h
  ·exact ok
  ·exact b.ok q h
 ·rcases mem_ins2.mp hq with rfl | h
  ·exact lv
  ·exact b.lv q h
 ·rcases mem_ins2.mp hq with rfl | h
  ·exact nm
  ·exact b.nm q h
 ·obtain ⟨q,hq,h1,h2⟩:=mem_knowns.mp (b.kn x hx)
  exact mem_knowns.mpr ⟨q,mem_ins2.mpr (.inr hq),h1,h2⟩
theorem Bod.rule {rk rm:Str→Nat} {k:Nat} {bs:List Lit} {ks:List Str} {h:Str × Nat} {ts:List Trm} {hs:List (Str × Nat)} (H:HsOk rk rm hs) (b:Bod rk rm k bs ks) (hk:hs[k]? = some h) (ht:∀ t ∈ ts,TmOk t) (hl:ts.length = rm h.1) (hx:∀ x,Trm.name x ∈ ts→x ∈ ks) (few:bs.length ≤ 5):Drawn rk rm ((h.1,ts),bs):=by
 have hm:=List.mem_of_getElem? hk
 have h6:=H.sm _ hm
 have he:=H.rme _ hm
 have hki:=H.rki _ _ hk
 refine ⟨⟨⟨(H.ok _ hm).1,ht⟩,fun l hl => (b.ok l hl).1⟩,(H.ok _ hm).2,fun p hp => ?_,fun l hl => ?_,?_,few,fun p hp => ?_⟩
 ·rcases List.mem_cons.mp hp with rfl | hp
  ·exact hl
  ·obtain ⟨l,hl,rfl⟩:=List.mem_map.mp hp
   exact (b.ok l hl).2.1
 ·have:=b.lv l hl
  rw [← hki] at this
  exact this
 ·rintro ⟨p,hp,x,hx1,hx2⟩
  apply hx2
  refine b.kn x ?_
  rcases List.mem_cons.mp hp with rfl | hp
  ·exact hx x (mem_nms.mp hx1)
  ·obtain ⟨l,hl,rfl⟩:=List.mem_map.mp hp
   exact b.nm l hl x hx1
 ·rcases List.mem_cons.mp hp with rfl | hp
  ·show ts.length ≤ 7; omega
  ·obtain ⟨l,hl,rfl⟩:=List.mem_map.mp hp
   exact (b.ok l hl).2.2
theorem sort_names {ks:List Str}:∃ bd:List Str,sortK (ks.map Sum.inr) = bd.map Sum.inr∧∀ x,x ∈ bd↔x ∈ ks:=by
 have key:∀ l:List Key,(∀ k ∈ l,∃ x:Str,k = .inr x)→∃ bd:List Str,l = bd.map Sum.inr:=by
  intro l
  induction l with
  | nil => exact fun _ => ⟨[],rfl⟩
  | cons k l ih =>
   intro h
   obtain ⟨x,rfl⟩:=h k (by simp)
   obtain ⟨bd,rfl⟩:=ih fun k hk => h k (by simp [hk])
   exact ⟨x :: bd,rfl⟩
 obtain ⟨bd,hbd⟩:=key (sortK (ks.map Sum.inr)) fun k hk => by
  obtain ⟨x,_,rfl⟩:=List.mem_map.mp (mem_sortK.mp hk)
  exact ⟨x,rfl⟩
 refine ⟨bd,hbd,fun x => ?_⟩
 have h1:(Sum.inr x:Key) ∈ sortK (ks.map Sum.inr)↔Sum.inr x ∈ (bd.map Sum.inr:List Key):=by rw [hbd]
 have h2:∀ l:List Str,(Sum.inr x:Key) ∈ l.map Sum.inr↔x ∈ l:=fun l => by simp
 rw [← h2,← h1,mem_sortK,h2]
theorem sort_tabs:∃ ws:List Str,sortK ((rdP tabs).map (·.1)) = ws.map Sum.inr∧ws.length = 12∧∀ w ∈ ws,∃ v,(w,v) ∈ tabs:=by
 have e:((rdP tabs).map (·.1)) = (tabs.map (·.1)).map Sum.inr:=by simp [rdP,Function.comp_def]
 obtain ⟨ws,h1,h2⟩:=sort_names (ks:=tabs.map (·.1))
 rw [e]
 refine ⟨ws,h1,?_,fun w hw => ?_⟩
 ·have nd:=nodup_sortK ((tabs.map (·.1)).map Sum.inr)
  rw [h1] at nd
  have nd2:ws.Nodup:=List.Pairwise.of_map _ (fun _ _ ne e => ne (by rw [e])) nd
  have:ws.Perm (tabs.map (·.1)):=(List.perm_ext_iff_of_nodup nd2 tabs_nd).mpr h2
  rw [this.length_eq]; rfl
 ·obtain ⟨⟨x,v⟩,hq,rfl⟩:=List.mem_map.mp ((h2 w).mp hw)
  exact ⟨v,hq⟩
end K59
namespace K59
open PySem PySem.Spec PyProof.Rows L2 PL RU RQ
open Classical
section
variable {rk rm:Str→Nat} {t g hl nl d wl fl bl ml k:Nat} {hs:List (Str × Nat)} {ns ws us:List Str}
def Lp (rk rm:Str→Nat) (t g hl nl d wl fl bl ml k:Nat) (B:Nat) (S3:Sto) (i:Nat) (τ : PL.En) (S':Sto):Prop :=
 ∃ (tl:Nat) (bs:List Lit) (ks:List Str) (x10 x12 x13 x14:Option PV),τ = [some (.loc t),some (.loc hl),some (.int (k:Nat)),some (.loc nl),some (.loc d),some (.loc wl),some (.loc fl),some (.loc bl),some (.loc tl),some (.loc ml),x10,none,x12,x13,x14,none,none,none,none]∧S'[bl]? = some (.lst (bs.map litP))∧S'[tl]? = some (.lst (ks.map PV.str))∧(∃ mine,S'[ml]? = some (.lst mine)∧mine.length ≤ i)∧bs.length = i∧Bod rk rm k bs ks∧ks.length ≤ 7 * i∧Tray t g (B + 300 * i) S'∧Keep [t,g,bl,ml] S3 S'∧(tl ≠ t∧tl ≠ g∧tl ≠ bl∧tl ≠ ml)
theorem nms_fl (ts:List Trm):(ts.flatMap fun t => (nmsOf [t]).map PV.str) = (nmsOf ts).map PV.str:=by
 induction ts with
 | nil => rfl
 | cons t ts ih => rw [List.flatMap_cons,ih]; cases t <;> simp [nmsOf]
theorem loop_step {B i:Nat} {S3 S:Sto} {τ : PL.En} {x10:PV} (H:HsOk rk rm hs) (hk:k < hs.length) (hi:i < 3) (hB:B < 100000000000) (E:Ev4 t g hl nl d wl fl hs ns ws us S3) (hbl:bl < ml∧d < bl∧fl < bl∧wl < bl∧hl < bl∧nl < bl∧t < bl∧g < bl) {J:PL.En→Sto→Prop} {T:PV→Sto→Prop} {R:Str→PV→PL.En→Sto→Prop}
  (h:Lp rk rm t g hl nl d wl fl bl ml k B S3 i τ S) (hJ:∀ τ' S',Lp rk rm t g hl nl d wl fl bl ml k B S3 (i + 1) τ' S'→J τ' S') :
  wpS ((seqS (asgS (binM getP (vV 5) (callD m_q16 (aC (vV 0) (aC (cV (.int 12)) aN)))) (gN 12))
   (seqS (ifS (andM (blM (binM eqP (callD m_q16 (aC (vV 0) (aC (cV (.int 3)) aN))) (cV (.int 0)))) (blM (binM eqNilP (vV 9) (lstM aN)))) (seqS (asgS (binM getP (binM getP (vV 1) (callD m_q16 (aC (vV 0) (aC (binM addP (vV 2) (cV (.int 1))) aN)))) (cV (.int 0))) (gN 12))
   (exprS (mtM "list" appendP (vV 9) (aC (vV 12) aN)))) nopS)
   (seqS (asgS (m2M get2P (vV 4) (vV 12) (m2M get2P (callM (on1 dictLP) (aC (vV 1) aN)) (vV 12) (cV (.int 0)))) (gN 13))
   (seqS (asgS (compM (rng1M (vV 13)) (gN 16) yesM (callD m_q17 (aC (vV 0) (aC (vV 6) (aC (vV 3) aN)))) [16]) (gN 14))
   (seqS (ifS (andM (blM (binM neNilP (vV 8) (lstM aN))) (blM (binM neNilP (vV 14) (lstM aN)))) (setS (tupM (aC (cV (.str "name")) (aC (binM getP (vV 8) (callD m_q16 (aC (vV 0) (aC (callM (on1 lenP) (aC (vV 8) aN)) aN)))) aN))) (vV 14) (cV (.int 0))) nopS)
   (seqS (exprS (mtM "list" appendP (vV 7) (aC (tupM (aC (vV 12) (aC (callM (on1 tupleP) (aC (vV 14) aN)) (aC (cV (.bl true)) aN)))) aN)))
   (asgS (binM addP (vV 8) (compM (seqM (vV 14)) (gN 17) (blM (binM eqP (binM getP (vV 17) (cV (.int 0))) (cV (.str "name")))) (binM getP (vV 17) (cV (.int 1))) [17])) (gN 8)))))))) (τ.set 10 (some x10)) S) J T R:=by
 obtain ⟨tl,bs,ks,x10',x12,x13,x14,rfl,eb,et,⟨mine,em,hml⟩,hbs,bod,hks,T0,K0,htl⟩:=h
 have E0:=E.keep K0 (by intro x hx; have:=E.ne; simp at hx; omega)
 have few:=H.few
 simp [-e_seqS,-zq0,-zq1,-zq2,-zq3,-zq4,-zq5,-zq6]
 refine seq_split (fun τ S' => ∃ w,(∃ v,(w,v) ∈ tabs)∧τ = [some (.loc t),some (.loc hl),some (.int (k:Nat)),some (.loc nl),some (.loc d),some (.loc wl),some (.loc fl),some (.loc bl),some (.loc tl),some (.loc ml),some x10,none,some (.str w),x13,x14,none,none,none,none]∧Tray t g (B + 300 * i + 1) S'∧Keep [t,g] S S') ?_ ?_
 ·simp [-zq0,-zq1,-zq2,-zq3,-zq4,-zq5,-zq6]
  refine draw_wp T0 (by omega) (by decide) (by decide) ?_
  intro n1 S1 a0 a1 T1 k1
  have E1:=E0.keep2 k1
  obtain ⟨x,hx,_,hm⟩:=atI_nat (xs:=ws.map PV.str) (i:=n1) a0 (by have:=E.w12; simp [this]; omega)
  obtain ⟨w,hw,rfl⟩:=List.mem_map.mp hm
  simp [E1.ew,hx,-zq0,-zq1,-zq2,-zq3,-zq4,-zq5,-zq6]
  exact ⟨w,E.wt w hw,rfl,T1,k1⟩
 rintro τ S1 ⟨w0,hw0,rfl,T1,k1⟩
 have E1:=E0.keep2 k1
 have em1:=k1.get em (by simp; omega)
 refine seq_split (fun τ S' => ∃ w,WdOk hs (k + 1) w∧τ = [some (.loc t),some (.loc hl),some (.int (k:Nat)),some (.loc nl),some (.loc d),some (.loc wl),some (.loc fl),some (.loc bl),some (.loc tl),some (.loc ml),some x10,none,some (.str w),x13,x14,none,none,none,none]∧(∃ mine,S'[ml]? = some (.lst mine)∧mine.length ≤ i + 1)∧Tray t g (B + 300 * i + 3) S'∧Keep [t,g,ml] S1 S') ?_ ?_
 ·simp [-zq0,-zq1,-zq2,-zq3,-zq4,-zq5,-zq6]
  refine draw_wp T1 (by omega) (by decide) (by decide) ?_
  intro n2 S2 a0 a1 T2 k2
  have E2:=E1.keep2 k2
  have em2:=k2.get em1 (by simp; omega)
  simp [-zq0,-zq1,-zq2,-zq3,-zq4,-zq5,-zq6]
  refine ⟨fun hz => ?_,fun hz => ⟨w0,.inl hw0,rfl,⟨mine,em2,by omega⟩,T2.up (by omega),k2.mono (by simp)⟩⟩
  refine lst_wp (by simp) ?_
  intro n3 S3' e3 k3 g3
  have lk3:=k3.1
  have E3:=E2.keep0 k3
  have T3:=T2.keep k3 (by simp) (by simp)
  have em3:=k3.get em2 (by simp)
  have ltT2:=T2.lt
  cases hmine:mine with
  | cons y ys =>
   simp [em3,e3,hmine,-zq0,-zq1,-zq2,-zq3,-zq4,-zq5,-zq6]
   exact ⟨w0,.inl hw0,rfl,by rw [hmine] at hml; simp at hml; omega,T3.up (by omega),(k2.mono (by simp)).trans (k3.mono (by simp))⟩
  | nil =>
   rw [hmine] at em3
   simp [em3,e3,-zq0,-zq1,-zq2,-zq3,-zq4,-zq5,-zq6]
   refine draw_wp T3 (by omega) (by omega) (by omega) ?_
   intro j S4 j0 j1 T4 k4
   have E4:=E3.keep2 k4
   have em4:=k4.get em3 (by simp; omega)
   obtain ⟨x,hx,hxj,hm⟩:=atI_nat (xs:=hs.map hsP) (i:=j) j0 (by simp; omega)
   rw [List.getElem?_map] at hxj
   obtain ⟨hh,hhj,rfl⟩:=Option.map_eq_some_iff.mp hxj
   have hsp:hsP hh = .tup [.str hh.1,.int (hh.2:Int)]:=rfl
   rw [hsp] at hx
   simp [E4.eh,hx,em4,-zq0,-zq1,-zq2,-zq3,-zq4,-zq5,-zq6]
   refine ⟨hh.1,.inr ⟨j.toNat,hh.2,by omega,hhj⟩,rfl,⟨_,set_get em4,by simp⟩,(T4.keep (M:=[ml]) (.set (by simp)) (by simp; omega) (by simp; omega)).up (by omega),?_⟩
   exact ((k2.mono (by simp)).trans ((k3.mono (by simp)).trans (k4.mono (by simp)))).trans (.set (by simp))
 rintro τ S2 ⟨w,hw,rfl,⟨mine2,em2,hml2⟩,T2,k2⟩
 have E2:=E1.keep k2 (by intro x hx; have:=E.ne; simp at hx; omega)
 obtain ⟨rl,rm6,rsame⟩:=hw.rl H
 have kb2:Keep [t,g,ml] S S2:=(k1.mono (by simp)).trans k2
 have eb2:=kb2.get eb (by simp; omega)
 have et2:=kb2.get et (by simp; omega)
 refine seq_split (fun τ S' => τ = [some (.loc t),some (.loc hl),some (.int (k:Nat)),some (.loc nl),some (.loc d),some (.loc wl),some (.loc fl),some (.loc bl),some (.loc tl),some (.loc ml),some x10,none,some (.str w),some (.int (rm w:Nat)),x14,none,none,none,none]∧Keep [] S2 S') ?_ ?_
 ·rw [e_asgS,e_bndS]
  refine many_wp H hw E2.eh E2.ed rfl rfl rfl ?_
  intro S3' k3
  simp [-zq0,-zq1,-zq2,-zq3,-zq4,-zq5,-zq6]
  exact k3
 rintro τ S3' ⟨rfl,k3⟩
 have E3:=E2.keep0 k3
 have T3:=T2.keep k3 (by simp) (by simp)
 have L3:Ln t g fl nl us ns S3':=⟨E3.ef,E3.en,E3.ne.2.2.2.2.1,E3.ne.2.2.2.2.2,E3.ne.2.1.1,E3.ne.2.1.2,E3.un,E3.kn,by have:=E3.u4; omega,E3.kl⟩
 have lt0:=K0.1
 have lt1:=k1.1
 have lt2:=kb2.1
 have lt3:=k3.1
 refine seq_split (fun τ S' => ∃ (gl:Nat) (gs:List Trm),τ = [some (.loc t),some (.loc hl),some (.int (k:Nat)),some (.loc nl),some (.loc d),some (.loc wl),some (.loc fl),some (.loc bl),some (.loc tl),some (.loc ml),some x10,none,some (.str w),some (.int (rm w:Nat)),some (.loc gl),none,none,none,none]∧S'[gl]? = some (.lst (gs.map Trm.pv))∧gs.length = rm w∧(∀ tm ∈ gs,TmOk tm)∧S3'.length ≤ gl∧Tray t g (B + 300 * i + 143) S'∧Keep [t,g] S3' S') ?_ ?_
 ·simp [-zq0,-zq1,-zq2,-zq3,-zq4,-zq5,-zq6]
  refine ⟨by unfold rngOk; omega,?_⟩
  refine gterms_wp (m:=rm w) (us16:=6) T3 (by omega) (by omega) L3 rfl rfl rfl (by simp) (by omega) ?_
  intro gs S4 hgl hok hnm T4 k4
  refine new_wp ?_
  intro gl S5 e5 k5 g5
  have lk5:=k5.1
  simp [-zq0,-zq1,-zq2,-zq3,-zq4,-zq5,-zq6]
  have lt4:=k4.1
  exact ⟨gs,e5,hgl,hok,by omega,(T4.keep k5 (by simp) (by simp)).up (by omega),k4.trans (k5.mono (by simp))⟩
 rintro τ S4 ⟨gl,gs,rfl,e4,hgl,hgok,ggl,T4,k4⟩
 have lt4:=k4.1
 have kb4:Keep [t,g,ml] S S4:=kb2.trans ((k3.mono (by simp)).trans (k4.mono (by simp)))
 have eb4:=kb4.get eb (by simp; omega)
 have et4:=kb4.get et (by simp; omega)
 have hblt:=lt_of_get eb
 have hmlt:=lt_of_get em
 have htlt:=lt_of_get et
 have ltT:=T0.lt
 refine seq_split (fun τ S' => ∃ (gs:List Trm),τ = [some (.loc t),some (.loc hl),some (.int (k:Nat)),some (.loc nl),some (.loc d),some (.loc wl),some (.loc fl),some (.loc bl),some (.loc tl),some (.loc ml),some x10,none,some (.str w),some (.int (rm w:Nat)),some (.loc gl),none,none,none,none]∧S'[gl]? = some (.lst (gs.map Trm.pv))∧gs.length = rm w∧(∀ tm ∈ gs,TmOk tm)∧Tray t g (B + 300 * i + 144) S'∧Keep [t,g,gl] S4 S') ?_ ?_
 ·simp [-zq0,-zq1,-zq2,-zq3,-zq4,-zq5,-zq6]
  refine lst_wp (by simp) ?_
  intro n5 S5 e5 k5 g5
  have lk5:=k5.1
  have et5:=k5.get et4 (by simp)
  have e45:=k5.get e4 (by simp)
  have T5:=T4.keep k5 (by simp) (by simp)
  by_cases hke:ks = []
  ·simp [et5,e5,hke,-zq0,-zq1,-zq2,-zq3,-zq4,-zq5,-zq6]
   exact ⟨gs,e45,hgl,hgok,T5.up (by omega),k5.mono (by simp)⟩
  simp [et5,e5,hke,-zq0,-zq1,-zq2,-zq3,-zq4,-zq5,-zq6]
  refine lst_wp (by simp) ?_
  intro n6 S6 e6 k6 g6
  have lk6:=k6.1
  have et6:=k6.get et5 (by simp)
  have e46:=k6.get e45 (by simp)
  have T6:=T5.keep k6 (by simp) (by simp)
  have k46:Keep [t,g,gl] S4 S6:=(k5.mono (by simp)).trans (k6.mono (by simp))
  by_cases hge:gs = []
  ·simp [e46,e6,hge,-zq0,-zq1,-zq2,-zq3,-zq4,-zq5,-zq6]
   exact ⟨by rw [← hgl,hge]; rfl,T6.up (by omega),k46⟩
  simp [e46,e6,hge,-zq0,-zq1,-zq2,-zq3,-zq4,-zq5,-zq6]
  simp [et6,-zq0,-zq1,-zq2,-zq3,-zq4,-zq5,-zq6]
  have hkp:0 < ks.length:=List.length_pos_iff.mpr hke
  refine draw_wp T6 (by omega) (by omega) (by omega) ?_
  intro j S7 j0 j1 T7 k7
  have et7:=k7.get et6 (by simp; omega)
  have e47:=k7.get e46 (by simp; omega)
  obtain ⟨x,hx,_,hm⟩:=atI_nat (xs:=ks.map PV.str) (i:=j) j0 (by simpa using j1)
  obtain ⟨y,hy,rfl⟩:=List.mem_map.mp hm
  obtain ⟨g0,gr,hgs⟩:=List.exists_cons_of_ne_nil hge
  have hix:ixN (gs.map Trm.pv).length 0 = some 0:=by
   rw [hgs]
   unfold ixN
   rw [if_pos (by omega),if_pos (by simp only [List.length_map,List.length_cons]; omega)]; rfl
  have hix':ixN gs.length 0 = some 0:=by simpa using hix
  have hset:(gs.map Trm.pv).set 0 (PV.tup [.str (Str.ofString "name"),.str y]) = (Trm.name y :: gr).map Trm.pv:=by rw [hgs]; rfl
  simp [et7,hx,e47,hix',-zq0,-zq1,-zq2,-zq3,-zq4,-zq5,-zq6]
  refine ⟨Trm.name y :: gr,by rw [set_get e47,hset],by rw [← hgl,hgs]; rfl,fun q hq => ?_,(T7.up (by omega)).keep (M:=[gl]) (.set (by simp)) (by simp; omega) (by simp; omega),(k46.trans (k7.mono (by simp))).trans (.set (by simp))⟩
  rcases List.mem_cons.mp hq with rfl | hq
  ·exact bod.un y hy
  ·exact hgok q (by rw [hgs]; exact List.mem_cons_of_mem _ hq)
 rintro τ S5 ⟨gs,rfl,e5,hgl,hgok,T5,k5⟩
 have lt5:=k5.1
 have kb5:Keep [t,g,ml,gl] S S5:=(kb4.mono (by simp)).trans (k5.mono (by simp))
 have eb5:=kb5.get eb (by simp; omega)
 have et5:=kb5.get et (by simp; omega)
 have em5:S5[ml]? = some (.lst mine2):=k5.get (k4.get (k3.get em2 (by simp)) (by simp; omega)) (by simp; omega)
 refine seq_split (fun τ S' => τ = [some (.loc t),some (.loc hl),some (.int (k:Nat)),some (.loc nl),some (.loc d),some (.loc wl),some (.loc fl),some (.loc bl),some (.loc tl),some (.loc ml),some x10,none,some (.str w),some (.int (rm w:Nat)),some (.loc gl),none,none,none,none]∧S'[bl]? = some (.lst ((bs ++ [(w,gs,true)]).map litP))∧Keep [bl] S5 S') ?_ ?_
 ·simp [eb5,e5,-zq0,-zq1,-zq2,-zq3,-zq4,-zq5,-zq6]
  refine ⟨by omega,?_,.set (by simp)⟩
  rw [set_get eb5]
  simp [litP]
 rintro τ S6 ⟨rfl,eb6,k6⟩
 have et6:=k6.get et5 (by simp; omega)
 have e56:=k6.get e5 (by simp; omega)
 have em6:=k6.get em5 (by simp; omega)
 have T6:=T5.keep k6 (by simp; omega) (by simp; omega)
 simp [e56,-zq0,-zq1,-zq2,-zq3,-zq4,-zq5,-zq6]
 have hnl:=nmsOf_len gs
 refine accF_wp Trm.pv (fun t => (nmsOf [t]).map PV.str) (xs:=gs) ?_ ?_ ?_ ?_
 ·intro S' k; simp; exact k.get e56 (by simp)
 ·rw [nms_fl]; simp; omega
 ·intro tm ht acc S7 J2 hl2 k7 hJ2
  have hJ2:=hJ2 S7 k7
  cases tm with
  | name x =>
   refine ⟨_,rfl,?_⟩
   simp [nmsOf] at hl2 hJ2
   simp [Trm.pv,wipeE,stepE_wp,-zq0,-zq1,-zq2,-zq3,-zq4,-zq5,-zq6]
   exact ⟨by omega,hJ2⟩
  | num i =>
   refine ⟨_,rfl,?_⟩
   simp [nmsOf] at hl2 hJ2
   simp [Trm.pv,wipeE,stepE_wp,-zq0,-zq1,-zq2,-zq3,-zq4,-zq5,-zq6]
   exact hJ2
  | txt x =>
   refine ⟨_,rfl,?_⟩
   simp [nmsOf] at hl2 hJ2
   simp [Trm.pv,wipeE,stepE_wp,-zq0,-zq1,-zq2,-zq3,-zq4,-zq5,-zq6]
   exact hJ2
 intro S7 k7
 refine new_wp ?_
 intro n8 S8 e8 k8 g8
 have lk8:=k8.1
 rw [List.nil_append,nms_fl] at e8
 have k68:=k7.trans k8
 have lt6:=k6.1
 have lt7:=k7.1
 simp [-zq0,-zq1,-zq2,-zq3,-zq4,-zq5,-zq6]
 refine addL_wp (k68.get et6 (by simp)) e8 (by simp; omega) ?_
 intro n9 S9 e9 k9 g9
 have lk9:=k9.1
 have lt8:=k8.1
 simp [-zq0,-zq1,-zq2,-zq3,-zq4,-zq5,-zq6]
 have k69:=k68.trans k9
 refine hJ _ _ ⟨n9,bs ++ [(w,gs,true)],ks ++ nmsOf gs,_,_,_,_,rfl,k69.get eb6 (by simp),by rw [e9]; simp,⟨mine2,k69.get em6 (by simp),hml2⟩,by simp [hbs],bod.ask H hw hgok hgl,by simp; omega,(T6.keep k69 (by simp) (by simp)).up (by omega),?_,by omega⟩
 refine (K0.trans ?_)
 have:Keep [t,g,bl,ml,gl] S S9:=(kb5.mono (by simp)).trans ((k6.mono (by simp)).trans (k69.mono (by simp)))
 exact this.mono (by intro x hx hlt; simp at hx ⊢; omega)
end
end K59
namespace K59
open PySem PySem.Spec PyProof.Rows L2 PL RU RQ
open Classical
structure Af (rk rm:Str→Nat) (t g bl bo k B few:Nat) (bd:List Str) (S0 S':Sto) (bs:List Lit):Prop where
 eb:S'[bl]? = some (.lst (bs.map litP))
 ec:S'[bo]? = some (.lst (bd.map PV.str))
 bod:Bod rk rm k bs bd
 few:bs.length ≤ few
 T:Tray t g B S'
 K:Keep [t,g,bl] S0 S'
theorem Bod.same {rk rm:Str→Nat} {k:Nat} {bs:List Lit} {ks bd:List Str} (b:Bod rk rm k bs ks) (h:∀ x,x ∈ bd↔x ∈ ks):Bod rk rm k bs bd :=
 ⟨b.ok,b.lv,fun l hl x hx => (h x).mpr (b.nm l hl x hx),fun x hx => b.kn x ((h x).mp hx),fun x hx => b.un x ((h x).mp hx)⟩
theorem atI_get {α : Type} {xs:List α} {i:Nat} {x : α} (h:xs[i]? = some x):atI xs (i:Int) = some x:=by
 have hl:=(List.getElem?_eq_some_iff.mp h).1
 unfold atI ixN
 rw [if_pos (by omega),if_pos (by omega)]
 simpa using h
section
variable {rk rm:Str→Nat} {t g hl nl d wl fl bl ml k bo:Nat} {hs:List (Str × Nat)} {ns ws us bd:List Str}
theorem barred_step {B tl:Nat} {S:Sto} {x10 x12 x13 x14 x15:Option PV} {bs:List Lit} (H:HsOk rk rm hs) (hk:k < hs.length) (hB:B < 100000000000) (E:Ev4 t g hl nl d wl fl hs ns ws us S) (A:Af rk rm t g bl bo k B 3 bd S S bs) (hbo:bo ≠ t∧bo ≠ g∧bo ≠ bl∧d ≠ bl∧fl ≠ bl∧wl ≠ bl∧hl ≠ bl∧nl ≠ bl∧t ≠ bl∧g ≠ bl) (hbd:bd.length ≤ 1000) {N:PL.En→Sto→Prop} {T:PV→Sto→Prop} {R:Str→PV→PL.En→Sto→Prop}
  (h:∀ (x12 x13 x14:Option PV) (bs:List Lit) S',Af rk rm t g bl bo k (B + 300) 4 bd S S' bs→N [some (.loc t),some (.loc hl),some (.int (k:Nat)),some (.loc nl),some (.loc d),some (.loc wl),some (.loc fl),some (.loc bl),some (.loc tl),some (.loc ml),x10,some (.loc bo),x12,x13,x14,x15,none,none,none] S') :
  wpS ((ifS (blM (binM eqP (callD m_q16 (aC (vV 0) (aC (cV (.int 3)) aN))) (cV (.int 0)))) (seqS (asgS (binM getP (binM addP (vV 5) (compM (seqM (slM (vV 1) oN (oS (vV 2)))) (gN 18) yesM (binM getP (vV 18) (cV (.int 0))) [18])) (callD m_q16 (aC (vV 0) (aC (binM addP (cV (.int 12)) (vV 2)) aN)))) (gN 12))
   (seqS (asgS (m2M get2P (vV 4) (vV 12) (m2M get2P (callM (on1 dictLP) (aC (vV 1) aN)) (vV 12) (cV (.int 0)))) (gN 13))
   (seqS (asgS (callM (on1 tupleP) (aC (compM (rng1M (vV 13)) (gN 16) yesM (callD m_q17 (aC (vV 0) (aC (vV 11) (aC (vV 3) aN)))) [16]) aN)) (gN 14))
   (exprS (mtM "list" insertP (vV 7) (aC (callD m_q16 (aC (vV 0) (aC (binM addP (callM (on1 lenP) (aC (vV 7) aN)) (cV (.int 1))) aN))) (aC (tupM (aC (vV 12) (aC (vV 14) (aC (cV (.bl false)) aN)))) aN))))))) nopS) [some (.loc t),some (.loc hl),some (.int (k:Nat)),some (.loc nl),some (.loc d),some (.loc wl),some (.loc fl),some (.loc bl),some (.loc tl),some (.loc ml),x10,some (.loc bo),x12,x13,x14,x15,none,none,none] S) N T R:=by
 have few:=H.few
 have ltT:=A.T.lt
 simp [-e_seqS,-zq0,-zq1,-zq2,-zq3,-zq4,-zq5,-zq6]
 refine draw_wp A.T (by omega) (by decide) (by decide) ?_
 intro n1 S1 a0 a1 T1 k1
 have E1:=E.keep2 k1
 simp [-e_seqS,-zq0,-zq1,-zq2,-zq3,-zq4,-zq5,-zq6]
 have eb1:=k1.get A.eb (by simp; omega)
 have ec1:=k1.get A.ec (by simp; omega)
 refine ⟨fun _ => ?_,fun _ => h _ _ _ bs S1 ⟨eb1,ec1,A.bod,by have:=A.few; omega,T1.up (by omega),k1.mono (by simp)⟩⟩
 refine seq_split (fun τ S' => ∃ w,WdOk hs k w∧τ = [some (.loc t),some (.loc hl),some (.int (k:Nat)),some (.loc nl),some (.loc d),some (.loc wl),some (.loc fl),some (.loc bl),some (.loc tl),some (.loc ml),x10,some (.loc bo),some (.str w),x13,x14,x15,none,none,none]∧Tray t g (B + 2) S'∧Keep [t,g] S1 S') ?_ ?_
 ·simp [-zq0,-zq1,-zq2,-zq3,-zq4,-zq5,-zq6]
  refine slL_wp E1.eh ?_
  intro n2 S2 e2 k2 g2
  have lk2:=k2.1
  have e2:S2[n2]? = some (.lst ((hs.take k).map hsP)):=by rw [e2,cut_take,List.map_take]
  have h2l:(hs.take k).length ≤ 3:=by rw [List.length_take]; omega
  have h2k:(hs.take k).length = k:=by rw [List.length_take]; omega
  obtain ⟨h2,hh2⟩:∃ h2,h2 = hs.take k:=⟨_,rfl⟩
  rw [← hh2] at e2 h2l h2k
  simp [e2,-zq0,-zq1,-zq2,-zq3,-zq4,-zq5,-zq6]
  refine acc_map hsP (fun h => PV.str h.1) (xs:=h2) (by simp [e2]) (by simp; omega) (fun q hq acc J hl hJ => ⟨_,rfl,?_⟩) ?_
  ·simp [wipeE,stepE_wp,hsP,-zq0,-zq1,-zq2,-zq3,-zq4,-zq5,-zq6]
   exact ⟨hl,hJ⟩
  refine new_wp ?_
  intro n3 S3 e3 k3 g3
  have lk3:=k3.1
  have e3:S3[n3]? = some (.lst ((h2.map (·.1)).map PV.str)):=by rw [e3,List.nil_append,List.map_map]; rfl
  simp [-zq0,-zq1,-zq2,-zq3,-zq4,-zq5,-zq6]
  have E3:=(E1.keep0 k2).keep0 k3
  refine addL_wp E3.ew e3 (by have:=E.w12; simp [this]; omega) ?_
  intro n4 S4 e4 k4 g4
  have lk4:=k4.1
  have e4:S4[n4]? = some (.lst ((ws ++ h2.map (·.1)).map PV.str)):=by rw [e4,List.map_append]
  have T4:=T1.keep ((k2.trans k3).trans k4) (by simp) (by simp)
  simp [-zq0,-zq1,-zq2,-zq3,-zq4,-zq5,-zq6]
  refine draw_wp T4 (by omega) (by omega) (by omega) ?_
  intro j S5 j0 j1 T5 k5
  have ltT1:=T1.lt
  have l2:=k2.1
  have l3:=k3.1
  have e5:=k5.get e4 (by simp; omega)
  obtain ⟨x,hx,_,hm⟩:=atI_nat (xs:=(ws ++ h2.map (·.1)).map PV.str) (i:=j) j0 (by have:=E.w12; simp [this]; omega)
  obtain ⟨w,hw,rfl⟩:=List.mem_map.mp hm
  have hwd:WdOk hs k w:=by
   rcases List.mem_append.mp hw with q | q
   ·exact .inl (E.wt w q)
   ·obtain ⟨⟨y,n⟩,hy,rfl⟩:=List.mem_map.mp q
    obtain ⟨i,hi⟩:=List.getElem?_of_mem hy
    rw [hh2,List.getElem?_take] at hi
    split at hi
    ·rename_i hik
     exact .inr ⟨i,n,hik,hi⟩
    ·cases hi
  have K:Keep [t,g] S1 S5:=(((k2.trans k3).trans k4).mono (by simp)).trans k5
  generalize (ws ++ h2.map (·.1)).map PV.str = zs at e5 hx
  simp [e5,hx,-zq0,-zq1,-zq2,-zq3,-zq4,-zq5,-zq6]
  exact ⟨w,hwd,rfl,T5,K⟩
 rintro τ S2 ⟨w,hw,rfl,T2,k2⟩
 have E2:=E1.keep2 k2
 obtain ⟨rl,rm6,rsame⟩:=hw.rl H
 refine seq_split (fun τ S' => τ = [some (.loc t),some (.loc hl),some (.int (k:Nat)),some (.loc nl),some (.loc d),some (.loc wl),some (.loc fl),some (.loc bl),some (.loc tl),some (.loc ml),x10,some (.loc bo),some (.str w),some (.int (rm w:Nat)),x14,x15,none,none,none]∧Keep [] S2 S') ?_ ?_
 ·rw [e_asgS,e_bndS]
  refine many_wp H hw E2.eh E2.ed rfl rfl rfl ?_
  intro S3' k3
  simp [-zq0,-zq1,-zq2,-zq3,-zq4,-zq5,-zq6]
  exact k3
 rintro τ S3 ⟨rfl,k3⟩
 have E3:=E2.keep0 k3
 have T3:=T2.keep k3 (by simp) (by simp)
 have ec3:=k3.get (k2.get ec1 (by simp; omega)) (by simp)
 have L3:Ln t g bo nl bd ns S3:=⟨ec3,E3.en,hbo.1,hbo.2.1,E3.ne.2.1.1,E3.ne.2.1.2,A.bod.un,E3.kn,hbd,E3.kl⟩
 refine seq_split (fun τ S' => ∃ (gs:List Trm),τ = [some (.loc t),some (.loc hl),some (.int (k:Nat)),some (.loc nl),some (.loc d),some (.loc wl),some (.loc fl),some (.loc bl),some (.loc tl),some (.loc ml),x10,some (.loc bo),some (.str w),some (.int (rm w:Nat)),some (.tup (gs.map Trm.pv)),x15,none,none,none]∧gs.length = rm w∧(∀ tm ∈ gs,TmOk tm)∧(∀ x,Trm.name x ∈ gs→x ∈ bd)∧Tray t g (B + 142) S'∧Keep [t,g] S3 S') ?_ ?_
 ·simp [-zq0,-zq1,-zq2,-zq3,-zq4,-zq5,-zq6]
  refine ⟨by unfold rngOk; omega,?_⟩
  refine gterms_wp (m:=rm w) (us16:=11) T3 (by omega) (by omega) L3 rfl rfl rfl (by simp) (by omega) ?_
  intro gs S4 hgl hok hnm T4 k4
  refine new_wp ?_
  intro n5 S5 e5 k5 g5
  have lk5:=k5.1
  simp [e5,-zq0,-zq1,-zq2,-zq3,-zq4,-zq5,-zq6]
  exact ⟨gs,rfl,hgl,hok,hnm,(T4.keep k5 (by simp) (by simp)).up (by omega),k4.trans (k5.mono (by simp))⟩
 rintro τ S4 ⟨gs,rfl,hgl,hgok,hgn,T4,k4⟩
 have k14:Keep [t,g] S1 S4:=(k2.trans (k3.mono (by simp))).trans k4
 have eb4:=k14.get eb1 (by simp; omega)
 have hfew:=A.few
 simp [eb4,-zq0,-zq1,-zq2,-zq3,-zq4,-zq5,-zq6]
 refine draw_wp T4 (by omega) (by omega) (by omega) ?_
 intro j S5 j0 j1 T5 k5
 have eb5:=k5.get eb4 (by simp; omega)
 simp [eb5,-zq0,-zq1,-zq2,-zq3,-zq4,-zq5,-zq6]
 have k15:=k14.trans k5
 refine ⟨⟨by omega,j0,by omega⟩,?_⟩
 refine h _ _ _ (bs.take j.toNat ++ [(w,gs,false)] ++ bs.drop j.toNat) _ ⟨?_,?_,A.bod.ins ⟨⟨rl,hgok⟩,hgl,by show gs.length ≤ 7; omega⟩ ?_ (fun x hx => hgn x (mem_nms.mp hx)),?_,(T5.up (by omega)).keep (M:=[bl]) (.set (by simp)) (by simp; omega) (by simp; omega),((k1.trans k15).mono (by simp)).trans (.set (by simp))⟩
 ·rw [set_get eb5]
  simp [List.map_take,List.map_drop,litP]
 ·rw [List.getElem?_set_ne (by omega)]
  exact k15.get ec1 (by simp; omega)
 ·rcases hw with ⟨v,hv⟩ | ⟨i,n,h1,h2⟩
  ·exact .inl ⟨_,tab_room hv,rfl⟩
  ·have:=H.rki i _ h2
   simp only at this
   exact .inr (.inr (by simp only; omega))
 ·have:=congrArg List.length (List.take_append_drop j.toNat bs)
  simp only [List.length_append,List.length_cons,List.length_nil] at this ⊢
  omega
theorem same_step {B tl:Nat} {S:Sto} {x10 x12 x13 x14 x15:Option PV} {bs:List Lit} (H:HsOk rk rm hs) (hB:B < 100000000000) (en:S[nl]? = some (.lst (ns.map PV.str))) (nlne:nl ≠ t∧nl ≠ g∧nl ≠ bl) (kn:∀ x ∈ ns,Tx12 x) (kl:ns.length ≤ 1000) (A:Af rk rm t g bl bo k B 4 bd S S bs) (hbo:bo ≠ t∧bo ≠ g∧bo ≠ bl∧t ≠ bl∧g ≠ bl) (hbd:bd.length ≤ 1000) {N:PL.En→Sto→Prop} {T:PV→Sto→Prop} {R:Str→PV→PL.En→Sto→Prop}
  (h:∀ (x15:Option PV) (bs:List Lit) S',Af rk rm t g bl bo k (B + 100) 5 bd S S' bs→N [some (.loc t),some (.loc hl),some (.int (k:Nat)),some (.loc nl),some (.loc d),some (.loc wl),some (.loc fl),some (.loc bl),some (.loc tl),some (.loc ml),x10,some (.loc bo),x12,x13,x14,x15,none,none,none] S') :
  wpS ((ifS (blM (binM eqP (callD m_q16 (aC (vV 0) (aC (cV (.int 4)) aN))) (cV (.int 0)))) (seqS (asgS (tupM (aC (callD m_q17 (aC (vV 0) (aC (vV 11) (aC (vV 3) aN)))) (aC (callD m_q17 (aC (vV 0) (aC (vV 11) (aC (vV 3) aN)))) aN))) (gN 15))
   (exprS (mtM "list" insertP (vV 7) (aC (callD m_q16 (aC (vV 0) (aC (binM addP (callM (on1 lenP) (aC (vV 7) aN)) (cV (.int 1))) aN))) (aC (tupM (aC (cV (.str "same")) (aC (vV 15) (aC (binM eqP (callD m_q16 (aC (vV 0) (aC (cV (.int 2)) aN))) (cV (.int 0))) aN)))) aN))))) nopS) [some (.loc t),some (.loc hl),some (.int (k:Nat)),some (.loc nl),some (.loc d),some (.loc wl),some (.loc fl),some (.loc bl),some (.loc tl),some (.loc ml),x10,some (.loc bo),x12,x13,x14,x15,none,none,none] S) N T R:=by
 have ltT:=A.T.lt
 have hfew:=A.few
 simp [-zq0,-zq1,-zq2,-zq3,-zq4,-zq5,-zq6]
 refine draw_wp A.T (by omega) (by decide) (by decide) ?_
 intro n1 S1 a0 a1 T1 k1
 have eb1:=k1.get A.eb (by simp; omega)
 have ec1:=k1.get A.ec (by simp; omega)
 have en1:=k1.get en (by simp; omega)
 simp [-zq0,-zq1,-zq2,-zq3,-zq4,-zq5,-zq6]
 refine ⟨fun _ => ?_,fun _ => h _ bs S1 ⟨eb1,ec1,A.bod,by omega,T1.up (by omega),k1.mono (by simp)⟩⟩
 have L1:Ln t g bo nl bd ns S1:=⟨ec1,en1,hbo.1,hbo.2.1,nlne.1,nlne.2.1,A.bod.un,kn,hbd,kl⟩
 refine gterm_wp T1 (by omega) L1 ?_
 intro ta S2 hta hna T2 k2
 simp [-zq0,-zq1,-zq2,-zq3,-zq4,-zq5,-zq6]
 refine gterm_wp T2 (by omega) (L1.keep2 k2) ?_
 intro tb S3 htb hnb T3 k3
 have k13:=k2.trans k3
 have eb3:=k13.get eb1 (by simp; omega)
 simp [eb3,-zq0,-zq1,-zq2,-zq3,-zq4,-zq5,-zq6]
 refine draw_wp T3 (by omega) (by omega) (by omega) ?_
 intro j S4 j0 j1 T4 k4
 simp [-zq0,-zq1,-zq2,-zq3,-zq4,-zq5,-zq6]
 refine draw_wp T4 (by omega) (by decide) (by decide) ?_
 intro n5 S5 b0 b1 T5 k5
 have k15:=(k13.trans k4).trans k5
 have eb5:=k15.get eb1 (by simp; omega)
 simp [eb5,-zq0,-zq1,-zq2,-zq3,-zq4,-zq5,-zq6]
 refine ⟨⟨by omega,j0,by omega⟩,?_⟩
 have hsame:rm (Str.ofString "same") = 2:=by
  have:=H.ag (Str.ofString "same",2) (by simp [rooms])
  simp only at this
  omega
 have hrl:=room_ok (x:=Str.ofString "same") (v:=2) (by simp [rooms])
 refine h _ (bs.take j.toNat ++ [(Str.ofString "same",[ta,tb],decide (n5 = 0))] ++ bs.drop j.toNat) _ ⟨?_,?_,A.bod.ins ⟨⟨hrl.1,fun q hq => ?_⟩,hsame.symm,by simp⟩ (.inl ⟨(Str.ofString "same",2),by simp [rooms],rfl⟩) (fun x hx => ?_),?_,(T5.up (by omega)).keep (M:=[bl]) (.set (by simp)) (by simp; omega) (by simp; omega),((k1.trans k15).mono (by simp)).trans (.set (by simp))⟩
 ·rw [set_get eb5]
  simp [List.map_take,List.map_drop,litP]
 ·rw [List.getElem?_set_ne (by omega)]
  exact k15.get ec1 (by simp; omega)
 ·simp [liA] at hq
  rcases hq with rfl | rfl
  ·exact hta
  ·exact htb
 ·have hx:=mem_nms.mp hx
  simp at hx
  rcases hx with hx | hx
  ·exact hna x hx.symm
  ·exact hnb x hx.symm
 ·have:=congrArg List.length (List.take_append_drop j.toNat bs)
  simp only [List.length_append,List.length_cons,List.length_nil] at this ⊢
  omega
end
theorem rule_wp {rk rm:Str→Nat} {hs:List (Str × Nat)} {hh:Str × Nat} {ns:List Str} {t g B hl nl k:Nat} {S:Sto} (T:Tray t g B S) (hB:B < 10000000000) (H:HsOk rk rm hs) (hk:hs[k]? = some hh) (eh:S[hl]? = some (.lst (hs.map hsP))) (en:S[nl]? = some (.lst (ns.map PV.str))) (ne:(hl ≠ t∧hl ≠ g)∧(nl ≠ t∧nl ≠ g)) (kn:∀ x ∈ ns,Tx12 x) (kl:ns.length ≤ 1000) {P:PV→Sto→Prop} {R:Str→PV→Sto→Prop}
  (h:∀ (r:Rul) S',Drawn rk rm r→Tray t g (B + 2000) S'→Keep [t,g] S S'→P (rulP r) S'):wp (m_q22 [.loc t,.loc hl,.int (k:Nat),.loc nl] S) P R:=by
 unfold m_q22
 rw [callS_wp]
 have ltT:=T.lt
 have lth:=lt_of_get eh
 have ltn:=lt_of_get en
 have hkl:k < hs.length:=(List.getElem?_eq_some_iff.mp hk).1
 have few:=H.few
 simp [startE,-zq0,-zq1,-zq2,-zq3,-zq4,-zq5,-zq6]
 refine tables_wp ?_
 intro d S1 e1 k1 g1
 have lk1:=k1.1
 have T1:=T.keep k1 (by simp) (by simp)
 simp [-zq0,-zq1,-zq2,-zq3,-zq4,-zq5,-zq6]
 obtain ⟨ws,hws,hw12,hwt⟩:=sort_tabs
 refine sortDk_wp (b:=true) e1 (fun q hq => by
  obtain ⟨z,_,rfl⟩:=List.mem_map.mp hq
  rename_i hz
  simp only [rdP,List.mem_map] at hz
  obtain ⟨y,_,rfl⟩:=hz
  rfl) ?_
 intro wl S2 e2 k2 g2
 have lk2:=k2.1
 have e2:S2[wl]? = some (.lst (ws.map PV.str)):=by rw [e2,hws,List.map_map]; rfl
 have T2:=T1.keep k2 (by simp) (by simp)
 have e12:=k2.get e1 (by simp)
 simp [-zq0,-zq1,-zq2,-zq3,-zq4,-zq5,-zq6]
 refine free_names_wp T2 (by omega) ?_
 intro fl us S3 e3 un u4 g3 T3 k3
 have lt1:=lt_of_get e12
 have lt2:=lt_of_get e2
 have lt3:=lt_of_get e3
 have l12:=k1.1
 have l22:=k2.1
 have l32:=k3.1
 simp [-zq0,-zq1,-zq2,-zq3,-zq4,-zq5,-zq6]
 refine lst_wp (by simp) ?_
 intro bl S4 e4 k4 g4
 have lk4:=k4.1
 simp [-zq0,-zq1,-zq2,-zq3,-zq4,-zq5,-zq6]
 refine lst_wp (by simp) ?_
 intro tl S5 e5 k5 g5
 have lk5:=k5.1
 simp [-zq0,-zq1,-zq2,-zq3,-zq4,-zq5,-zq6]
 refine lst_wp (by simp) ?_
 intro ml S6 e6 k6 g6
 have lk6:=k6.1
 have lt4:=lt_of_get e4
 have lt5:=lt_of_get e5
 have l42:=k4.1
 have l52:=k5.1
 have k36:Keep [] S3 S6:=(k4.trans k5).trans k6
 have T6:=T3.keep k36 (by simp) (by simp)
 have kA:Keep [t,g] S S6:=((k1.trans k2).mono (by simp)).trans (k3.trans (k36.mono (by simp)))
 have kB:Keep [t,g] S2 S6:=k3.trans (k36.mono (by simp))
 have E6:Ev4 t g hl nl d wl fl hs ns ws us S6:=⟨kA.get eh (by simp; omega),kA.get en (by simp; omega),kB.get e12 (by simp; omega),kB.get e2 (by simp; omega),k36.get e3 (by simp),⟨ne.1,ne.2,by omega,by omega,by omega⟩,hw12,hwt,un,u4,kn,kl⟩
 simp [-zq0,-zq1,-zq2,-zq3,-zq4,-zq5,-zq6]
 refine draw_wp T6 (by omega) (by decide) (by decide) ?_
 intro n7 S7 a0 a1 T7 k7
 have E7:=E6.keep2 k7
 have l62:=k6.1
 have l72:=k7.1
 have e47:=k7.get ((k5.trans k6).get e4 (by simp)) (by simp; omega)
 have e57:=k7.get (k6.get e5 (by simp)) (by simp; omega)
 have e67:=k7.get e6 (by simp; omega)
 have lb:=lt_of_get e47
 have lm:=lt_of_get e67
 simp [-zq0,-zq1,-zq2,-zq3,-zq4,-zq5,-zq6]
 refine ⟨by unfold rngOk; omega,?_⟩
 rw [show (1 + n7:Int) = ((n7.toNat + 1:Nat):Int) by omega]
 have hi3:n7.toNat + 1 ≤ 3:=by omega
 generalize n7.toNat + 1 = m at hi3 ⊢
 refine forR_wp (fun i τ S' => Lp rk rm t g hl nl d wl fl bl ml k (B + 102) S7 i τ S') ⟨tl,[],[],_,_,_,_,rfl,e47,e57,⟨[],e67,by simp⟩,rfl,.start,by simp,T7.up (by omega),.refl,by omega⟩ ?_ ?_
 ·intro i τ S8 J hi hLp hJ
  refine ⟨by simp,_,rfl,?_⟩
  exact loop_step H hkl (by omega) (by omega) E7 (by have:=T2.lt; omega) hLp hJ
 ·intro τ S8 hLp
  obtain ⟨tl2,bs,ks,x10,x12,x13,x14,rfl,eb8,et8,⟨mine,em8,_⟩,hbs,bod,hks,T8,K8,htl2⟩:=hLp
  refine ⟨by simp,?_⟩
  have E8:=E7.keep K8 (by have:=T2.lt; intro x hx; have:=E7.ne; simp at hx; omega)
  obtain ⟨bd,hbd,hmem⟩:=sort_names (ks:=ks)
  have hbdl:bd.length ≤ 1000:=by
   have nd:=nodup_sortK (ks.map Sum.inr)
   rw [hbd] at nd
   have nd2:bd.Nodup:=List.Pairwise.of_map _ (fun _ _ ne e => ne (by rw [e])) nd
   have:bd.length ≤ ks.length:=Nat.le_of_not_lt fun z => by
    obtain ⟨x,hx,hn⟩:=some_out nd2 z
    exact hn ((hmem x).mp hx)
   omega
  have et8':S8[tl2]? = some (.lst ((ks.map Sum.inr).map kP)):=by rw [et8,List.map_map]; rfl
  simp [-e_seqS,-zq0,-zq1,-zq2,-zq3,-zq4,-zq5,-zq6]
  refine seq_split (fun τ S' => ∃ bo,τ = [some (.loc t),some (.loc hl),some (.int (k:Nat)),some (.loc nl),some (.loc d),some (.loc wl),some (.loc fl),some (.loc bl),some (.loc tl2),some (.loc ml),x10,some (.loc bo),x12,x13,x14,none,none,none,none]∧S'[bo]? = some (.lst (bd.map PV.str))∧S8.length ≤ bo∧Keep [] S8 S') ?_ ?_
  ·simp [-zq0,-zq1,-zq2,-zq3,-zq4,-zq5,-zq6]
   refine sortKey_wp (b:=true) et8' (by simp; omega) (fun q hq => by
    obtain ⟨z,_,rfl⟩:=List.mem_map.mp hq
    rfl) ?_
   intro bo S9 e9 k9 g9
   have lk9:=k9.1
   have e9:S9[bo]? = some (.lst (bd.map PV.str)):=by rw [e9,hbd,List.map_map]; rfl
   simp [-zq0,-zq1,-zq2,-zq3,-zq4,-zq5,-zq6]
   exact ⟨e9,g9,k9⟩
  rintro τ S9 ⟨bo,rfl,e9,g9,k9⟩
  have lt8:=K8.1
  have ltT2:=T2.lt
  have lb8:=lt_of_get eb8
  have E9:=E8.keep0 k9
  have b9:Af rk rm t g bl bo k (B + 102 + 300 * m) 3 bd S9 S9 bs:=⟨k9.get eb8 (by simp),e9,bod.same hmem,by omega,T8.keep k9 (by simp) (by simp),.refl⟩
  refine seq_split (fun τ S' => ∃ x12 x13 x14 bs',τ = [some (.loc t),some (.loc hl),some (.int (k:Nat)),some (.loc nl),some (.loc d),some (.loc wl),some (.loc fl),some (.loc bl),some (.loc tl2),some (.loc ml),x10,some (.loc bo),x12,x13,x14,none,none,none,none]∧Af rk rm t g bl bo k (B + 102 + 300 * m + 300) 4 bd S9 S' bs') ?_ ?_
  ·exact barred_step H hkl (by omega) E9 b9 (by omega) hbdl fun x12 x13 x14 bs' S' A => ⟨x12,x13,x14,bs',rfl,A⟩
  rintro τ S10 ⟨x12',x13',x14',bs2,rfl,A10⟩
  have en10:=A10.K.get E9.en (by simp; omega)
  refine seq_split (fun τ S' => ∃ x15 bs',τ = [some (.loc t),some (.loc hl),some (.int (k:Nat)),some (.loc nl),some (.loc d),some (.loc wl),some (.loc fl),some (.loc bl),some (.loc tl2),some (.loc ml),x10,some (.loc bo),x12',x13',x14',x15,none,none,none]∧Af rk rm t g bl bo k (B + 102 + 300 * m + 400) 5 bd S10 S' bs') ?_ ?_
  ·exact same_step H (by omega) en10 (by omega) kn kl ⟨A10.eb,A10.ec,A10.bod,A10.few,A10.T,.refl⟩ (by omega) hbdl fun x15 bs' S' A => ⟨x15,bs',rfl,A⟩
  rintro τ S11 ⟨x15,bs3,rfl,A11⟩
  have eh11:=A11.K.get (A10.K.get E9.eh (by simp; omega)) (by simp; omega)
  have en11:=A11.K.get en10 (by simp; omega)
  have hhk:atI (hs.map hsP) (k:Int) = some (.tup [.str hh.1,.int (hh.2:Int)]):=atI_get (by rw [List.getElem?_map,hk]; rfl)
  have hm:=List.mem_of_getElem? hk
  have h6:=H.sm _ hm
  have he:=H.rme _ hm
  have L11:Ln t g bo nl bd ns S11:=⟨A11.ec,en11,by omega,by omega,by omega,by omega,A11.bod.un,kn,hbdl,kl⟩
  simp [eh11,hhk,-zq0,-zq1,-zq2,-zq3,-zq4,-zq5,-zq6]
  refine ⟨by unfold rngOk; omega,?_⟩
  refine gterms_wp (m:=hh.2) (us16:=11) A11.T (by omega) (by omega) L11 rfl rfl rfl (by simp) (by omega) ?_
  intro gs S12 hgl hok hnm T12 k12
  refine new_wp ?_
  intro n13 S13 e13 k13 g13
  have lk13:=k13.1
  have k1113:Keep [t,g] S11 S13:=k12.trans (k13.mono (by simp))
  have eh13:=k1113.get eh11 (by simp; omega)
  have eb13:=k1113.get A11.eb (by simp; omega)
  simp [e13,eh13,hhk,eb13,-zq0,-zq1,-zq2,-zq3,-zq4,-zq5,-zq6]
  have hd:Drawn rk rm ((hh.1,gs),bs3):=A11.bod.rule H hk hok (by rw [hgl,he]) hnm A11.few
  refine h ((hh.1,gs),bs3) S13 hd ((T12.keep k13 (by simp) (by simp)).up (by omega)) ?_
  have q1:Keep [t,g,bl,ml] S S9:=((kA.trans k7).mono (by simp)).trans (K8.trans (k9.mono (by simp)))
  have q2:Keep [t,g,bl,ml] S S13:=q1.trans ((A10.K.mono (by simp)).trans ((A11.K.mono (by simp)).trans (k1113.mono (by simp))))
  exact q2.mono (by intro x hx hlt; simp at hx ⊢; omega)
end K59
namespace K59
open PySem PySem.Spec PyProof.Rows L2 PL RU RQ
open Classical
theorem idx_nd:∀ {l:List Str} {i:Nat} {x:Str},l.Nodup→l[i]? = some x→l.idxOf x = i
 | [],_,_,_,h => by simp at h
 | y :: l,0,x,nd,h => by simp at h; subst h; simp
 | y :: l,i + 1,x,nd,h => by
  have h:l[i]? = some x:=by simpa using h
  have nd:=List.nodup_cons.mp nd
  have hne:¬ y = x:=fun z => nd.1 (z ▸ List.mem_of_getElem? h)
  have ih:=idx_nd nd.2 h
  rw [List.idxOf_cons,ih]
  have:(y == x) = false:=beq_eq_false_iff_ne.mpr hne
  rw [this]; rfl
theorem hs_build {hs:List (Str × Nat)} (nd:(hs.map (·.1)).Nodup) (ok:∀ h ∈ hs,RlOk h.1∧¬ IsRoom h.1) (sm:∀ h ∈ hs,h.2 ≤ 6) (few:hs.length ≤ 3):∃ rk rm,HsOk rk rm hs:=by
 refine ⟨fun x => (hs.map (·.1)).idxOf x,fun x => match hs.lookup x with | some n => n | none => ((rooms.lookup x).getD 0).toNat,nd,ok,fun i h hi => ?_,fun h hh => ?_,sm,fun q hq => ?_,few⟩
 ·exact idx_nd nd (by rw [List.getElem?_map,hi]; rfl)
 ·obtain ⟨x,n⟩:=h
  simp only [mem_lookup nd hh]
 ·obtain ⟨x,v⟩:=q
  have hno:hs.lookup x = none:=by
   cases q:hs.lookup x with
   | none => rfl
   | some n => exact absurd ⟨_,hq,rfl⟩ (ok _ (lookup_mem q)).2
  have:=room_ok hq
  simp only [hno,mem_lookup rooms_nd hq,Option.getD_some]
  omega
def fixN:List Str:=["read", "send", "def"]
theorem fix_ok:∀ x ∈ fixN,RlOk x∧¬ IsRoom x∧x ∈ bars:=by
 have h:∀ x ∈ fixN,((∀ c ∈ ch x,97 ≤ c∧c ≤ 122)∧1 ≤ x.length∧x.length ≤ 8)∧(x ≠ Str.ofString "if"∧x ≠ Str.ofString "not")∧(∀ q ∈ rooms,q.1 ≠ x)∧x ∈ bars:=by decide +kernel
 intro x hx
 obtain ⟨⟨a,b,c⟩,⟨d,e⟩,f,g⟩:=h x hx
 exact ⟨⟨⟨a,b,c⟩,d,e⟩,fun ⟨q,hq,z⟩ => f q hq z,g⟩
theorem fix_nd:fixN.Nodup:=by decide +kernel
structure HN (xs:List Str) (hs:List (Str × Nat)):Prop where
 at':∀ (i:Nat) h,hs[i]? = some h→xs[i]? = some h.1 ∨ fixN[i]? = some h.1
 sm:∀ h ∈ hs,h.2 ≤ 6
theorem HN.ok {xs:List Str} {hs:List (Str × Nat)} (h:HN xs hs) (nd:xs.Nodup) (ok:∀ x ∈ xs,RlOk x∧¬ IsRoom x) (nb:∀ x ∈ xs,x ∉ bars):(hs.map (·.1)).Nodup∧∀ q ∈ hs,RlOk q.1∧¬ IsRoom q.1:=by
 constructor
 ·refine List.pairwise_iff_getElem.mpr fun i j hi hj hij e => ?_
  have e:(hs.map (·.1))[i]? = (hs.map (·.1))[j]?:=by rw [List.getElem?_eq_getElem hi,List.getElem?_eq_getElem hj,e]
  rw [List.getElem?_map,List.getElem?_map] at e
  rw [List.length_map] at hj
  obtain ⟨a,ha⟩:∃ a,hs[i]? = some a:=⟨hs[i],List.getElem?_eq_getElem (by omega)⟩
  obtain ⟨b,hb⟩:∃ b,hs[j]? = some b:=⟨hs[j],List.getElem?_eq_getElem hj⟩
  rw [ha,hb] at e
  have e:a.1 = b.1:=by simpa using e
  have inj:∀ {l:List Str} {x:Str},l.Nodup→l[i]? = some x→l[j]? = some x→False:=fun nd h1 h2 => by
   have:=idx_nd nd h1
   have:=idx_nd nd h2
   omega
  rcases h.at' i a ha with p | p <;> rcases h.at' j b hb with q | q
  ·exact inj nd p (e ▸ q)
  ·exact nb _ (List.mem_of_getElem? p) (e ▸ (fix_ok _ (List.mem_of_getElem? q)).2.2)
  ·exact nb _ (List.mem_of_getElem? q) (e ▸ (fix_ok _ (List.mem_of_getElem? p)).2.2)
  ·exact inj fix_nd p (e ▸ q)
 ·intro q hq
  obtain ⟨i,hi⟩:=List.getElem?_of_mem hq
  rcases h.at' i q hi with p | p
  ·exact ok _ (List.mem_of_getElem? p)
  ·have:=fix_ok _ (List.mem_of_getElem? p)
   exact ⟨this.1,this.2.1⟩
theorem rules_wp {ns:List Str} {t g B nl:Nat} {S:Sto} (T:Tray t g B S) (hB:B < 1000000000) (en:S[nl]? = some (.lst (ns.map PV.str))) (ne:nl ≠ t∧nl ≠ g) (kn:∀ x ∈ ns,Tx12 x) (kl:ns.length ≤ 1000) {P:PV→Sto→Prop} {R:Str→PV→Sto→Prop}
  (h:∀ (rk rm:Str→Nat) (rs:List Rul) S',(∀ r ∈ rs,Drawn rk rm r)→agK rm rooms→rs.length ≤ 5→Tray t g (B + 20000) S'→Keep [t,g] S S'→P (.tup (rs.map rulP)) S'):wp (m_q11 [.loc t,.loc nl] S) P R:=by
 unfold m_q11
 rw [callS_wp]
 have ltT:=T.lt
 have ltn:=lt_of_get en
 simp [startE,-zq0,-zq1,-zq2,-zq3,-zq4,-zq5,-zq6]
 refine tables_wp ?_
 intro d S1 e1 k1 g1
 have lk1:=k1.1
 have T1:=T.keep k1 (by simp) (by simp)
 simp [-zq0,-zq1,-zq2,-zq3,-zq4,-zq5,-zq6]
 obtain ⟨ws,hws,hw12,hwt⟩:=sort_tabs
 refine sortDk_wp (b:=true) e1 (fun q hq => by
  obtain ⟨z,hz,rfl⟩:=List.mem_map.mp hq
  simp only [rdP,List.mem_map] at hz
  obtain ⟨y,_,rfl⟩:=hz
  rfl) ?_
 intro wl S2 e2 k2 g2
 have lk2:=k2.1
 have e2:S2[wl]? = some (.lst (ws.map PV.str)):=by rw [e2,hws,List.map_map]; rfl
 have T2:=T1.keep k2 (by simp) (by simp)
 simp [-zq0,-zq1,-zq2,-zq3,-zq4,-zq5,-zq6]
 refine lst_wp (by simp) ?_
 intro n3 S3 e3 k3 g3
 have lk3:=k3.1
 simp [-zq0,-zq1,-zq2,-zq3,-zq4,-zq5,-zq6]
 refine addL_wp (k3.get e2 (by simp)) e3 (by simp [hw12]) ?_
 intro bl S4 e4 k4 g4
 have lk4:=k4.1
 have e4:S4[bl]? = some (.lst ((ws ++ [Str.ofString "same",Str.ofString "not"]).map PV.str)):=by rw [e4]; simp
 simp [-zq0,-zq1,-zq2,-zq3,-zq4,-zq5,-zq6]
 refine lst_wp (by simp) ?_
 intro hl S5 e5 k5 g5
 have lk5:=k5.1
 have k25:=(k3.trans k4).trans k5
 have T5:=T2.keep k25 (by simp) (by simp)
 have e45:=k5.get e4 (by simp)
 simp [-zq0,-zq1,-zq2,-zq3,-zq4,-zq5,-zq6]
 refine draw_wp T5 (by omega) (by decide) (by decide) ?_
 intro n6 S6 a0 a1 T6 k6
 have l12:=k1.1
 have l22:=k2.1
 have l32:=k3.1
 have l42:=k4.1
 have l52:=k5.1
 have lt4:=lt_of_get e4
 have lt5:=lt_of_get e5
 have e46:=k6.get e45 (by simp; omega)
 have e56:=k6.get e5 (by simp; omega)
 simp [-zq0,-zq1,-zq2,-zq3,-zq4,-zq5,-zq6]
 have husN:∀ x ∈ ws ++ [Str.ofString "same",Str.ofString "not"],Nm x:=fun x hx => by
  rcases List.mem_append.mp hx with q | q
  ·obtain ⟨v,hv⟩:=hwt x q
   exact (room_ok (tab_room hv)).1.1
  ·have:∀ x ∈ [Str.ofString "same",Str.ofString "not"],(∀ c ∈ ch x,97 ≤ c∧c ≤ 122)∧1 ≤ x.length∧x.length ≤ 8:=by decide +kernel
   obtain ⟨a,b,c⟩:=this x q
   exact ⟨a,b,c⟩
 refine namesU_wp (us:=ws ++ [Str.ofString "same",Str.ofString "not"]) T6 (by omega) e46 (by omega) (by omega) husN (by simp [hw12]) (by omega) (by omega) ?_
 intro n7 xs S7 e7 g7 hxl hxnd hxn hxb hxu T7 k7
 have l62:=k6.1
 have l72:=k7.1
 have xok:∀ x ∈ xs,RlOk x∧¬ IsRoom x:=fun x hx => by
  refine ⟨⟨hxn x hx,fun z => hxb x hx (by rw [z]; simp [bars]),fun z => hxu x hx (by rw [z]; simp)⟩,?_⟩
  rintro ⟨⟨y,v⟩,hq,rfl⟩
  simp only at hx
  by_cases hs:y = Str.ofString "same"
  ·exact hxu y hx (by rw [hs]; simp)
  ·have:(y,v) ∈ tabs:=by
    simp only [tabs,rooms,List.mem_cons,List.not_mem_nil,or_false,Prod.mk.injEq] at hq ⊢
    rcases hq with q | q | q | q | q | q | q | q | q | q | q | q | q
    all_goals first | (exact absurd q.1 hs) | (simp [q])
   obtain ⟨ws',h1,h2⟩:=sort_names (ks:=tabs.map (·.1))
   have e:((rdP tabs).map (·.1)) = (tabs.map (·.1)).map Sum.inr:=by simp [rdP,Function.comp_def]
   rw [e,h1] at hws
   have hww:ws' = ws:=map_inj_of (fun a b e => by injection e) hws
   exact hxu y hx (List.mem_append_left _ (by rw [← hww]; exact (h2 y).mpr (List.mem_map.mpr ⟨_,this,rfl⟩)))
 have e57:=k7.get e56 (by simp; omega)
 have lt7:=lt_of_get e57
 have ltn7:=lt_of_get e7
 have en7:S7[nl]? = some (.lst (ns.map PV.str)):=((((k1.trans k2).trans k25).mono (M':=[t,g]) (by simp)).trans (k6.trans k7)).get en (by simp [ne])
 have hne7:hl ≠ n7:=by omega
 simp [e7,-zq0,-zq1,-zq2,-zq3,-zq4,-zq5,-zq6]
 refine forM_wp PV.str (fun dn τ S' => ∃ x4 hs,τ = [some (.loc t),some (.loc nl),some (.loc bl),some (.loc hl),x4,none,none,none]∧S'[hl]? = some (.lst (hs.map hsP))∧hs.length = dn.length∧HN xs hs∧Tray t g (B + 91 + 4 * dn.length) S'∧Keep [t,g,hl] S7 S') ⟨_,[],rfl,e57,rfl,⟨by simp,by simp⟩,T7.up (by omega),.refl⟩ ?_ ?_
 ·rintro dn x rest τ S8 J hxs ⟨x4,hs,rfl,e8,hlen,hn,T8,k8⟩ hJ
  have hdn:dn.length < 3:=by
   have:=congrArg List.length hxs
   simp at this; omega
  have hxi:xs[hs.length]? = some x:=by rw [hlen,hxs]; simp
  refine ⟨by simp; exact k8.get e7 (by simp; omega),_,rfl,?_⟩
  have lt8:=k8.1
  refine seq_split (fun τ S' => ∃ y,(y = x ∨ fixN[hs.length]? = some y)∧τ = [some (.loc t),some (.loc nl),some (.loc bl),some (.loc hl),some (.str y),none,none,none]∧Tray t g (B + 92 + 4 * dn.length) S'∧Keep [t,g] S8 S') ?_ ?_
  ·simp [-zq0,-zq1,-zq2,-zq3,-zq4,-zq5,-zq6]
   refine draw_wp T8 (by omega) (by decide) (by decide) ?_
   intro n9 S9 b0 b1 T9 k9
   have e89:=k9.get e8 (by simp; omega)
   simp [-zq0,-zq1,-zq2,-zq3,-zq4,-zq5,-zq6]
   refine ⟨fun _ => ?_,fun _ => .inl ⟨T9.up (by omega),k9⟩⟩
   refine lst_wp (by simp) ?_
   intro n10 S10 e10 k10 g10
   have lk10:=k10.1
   have e810:=k10.get e89 (by simp)
   have hfx:∃ y,atI [PV.str (Str.ofString "read"),PV.str (Str.ofString "send"),PV.str (Str.ofString "def")] (hs.length:Int) = some (.str y)∧fixN[hs.length]? = some y:=by
    rw [hlen]
    have:dn.length = 0 ∨ dn.length = 1 ∨ dn.length = 2:=by omega
    rcases this with q | q | q <;> rw [q] <;> exact ⟨_,rfl,rfl⟩
   obtain ⟨y,hy,hfy⟩:=hfx
   simp [e10,e810,hy,-zq0,-zq1,-zq2,-zq3,-zq4,-zq5,-zq6]
   exact .inr ⟨y,hfy,rfl,(T9.keep k10 (by simp) (by simp)).up (by omega),k9.trans (k10.mono (by simp))⟩
  rintro τ S9 ⟨y,hy,rfl,T9,k9⟩
  have e9:=k9.get e8 (by simp; omega)
  simp [e9,-zq0,-zq1,-zq2,-zq3,-zq4,-zq5,-zq6]
  refine lst_wp (by simp) ?_
  intro n10 S10 e10 k10 g10
  have lk10:=k10.1
  have T10:=T9.keep k10 (by simp) (by simp)
  have ltT9:=T9.lt
  simp [-zq0,-zq1,-zq2,-zq3,-zq4,-zq5,-zq6]
  refine draw_wp T10 (by omega) (by decide) (by decide) ?_
  intro n11 S11 b0 b1 T11 k11
  have e11:=k11.get e10 (by simp; omega)
  obtain ⟨m,hm,m1,m7⟩:∃ m:Int,atI [PV.int 4,PV.int 4,PV.int 4,PV.int 7] n11 = some (.int m)∧1 ≤ m∧m ≤ 7:=by
   obtain ⟨x,hx,_,hxm⟩:=atI_nat (xs:=[PV.int 4,PV.int 4,PV.int 4,PV.int 7]) (i:=n11) b0 (by simpa using b1)
   simp at hxm
   rcases hxm with rfl | rfl
   ·exact ⟨4,hx,by decide,by decide⟩
   ·exact ⟨7,hx,by decide,by decide⟩
  simp [e11,hm,-zq0,-zq1,-zq2,-zq3,-zq4,-zq5,-zq6]
  refine draw_wp T11 (by omega) (by omega) (by omega) ?_
  intro n12 S12 c0 c1 T12 k12
  have k912:Keep [t,g] S9 S12:=((k10.mono (by simp)).trans k11).trans k12
  have e12:=k912.get e9 (by simp; omega)
  simp [e12,-zq0,-zq1,-zq2,-zq3,-zq4,-zq5,-zq6]
  have hcast:PV.int n12 = .int ((n12.toNat:Nat):Int):=by rw [Int.toNat_of_nonneg c0]
  refine ⟨by omega,hJ _ _ ⟨_,hs ++ [(y,n12.toNat)],rfl,?_,by simp [hlen],⟨fun i q hi => ?_,fun q hq => ?_⟩,?_,?_⟩⟩
  ·rw [set_get e12,hcast]; simp [hsP]
  ·by_cases hil:i < hs.length
   ·rw [List.getElem?_append_left hil] at hi
    exact hn.at' i q hi
   ·have:i = hs.length:=by
     have:=(List.getElem?_eq_some_iff.mp hi).1
     simp at this; omega
    subst this
    simp at hi
    subst hi
    rcases hy with rfl | hy
    ·exact .inl hxi
    ·exact .inr hy
  ·rcases List.mem_append.mp hq with q | q
   ·exact hn.sm _ q
   ·simp at q; subst q; show n12.toNat ≤ 6; omega
  ·have:Tray t g (B + 91 + 4 * (dn.length + 1)) S12:=T12.up (by omega)
   simpa using this.keep (M:=[hl]) (.set (by simp)) (by simp; omega) (by simp; omega)
  ·exact ((k8.trans (k9.mono (by simp))).trans (k912.mono (by simp))).trans (.set (by simp))
 rintro τ S8 ⟨x4,hs,rfl,e8,hlen,hn,T8,k8⟩
 refine ⟨by simp; exact k8.get e7 (by simp; omega),?_⟩
 obtain ⟨hnd,hok⟩:=hn.ok hxnd xok hxb
 have hpos:0 < hs.length:=by omega
 have hs3:hs.length ≤ 3:=by omega
 obtain ⟨rk,rm,H⟩:=hs_build hnd hok hn.sm hs3
 have en8:=k8.get en7 (by simp; omega)
 have lt8:=k8.1
 simp [e8,-zq0,-zq1,-zq2,-zq3,-zq4,-zq5,-zq6]
 refine ⟨by unfold rngOk; omega,?_⟩
 rw [rngI_0]
 refine accM_wp (fun (i:Nat) => PV.int (i:Int)) (fun dn acc S' => ∃ rs:List Rul,acc = rs.map rulP∧rs.length = dn.length∧(∀ r ∈ rs,Drawn rk rm r)∧Tray t g (B + 110 + 2000 * dn.length) S'∧Keep [t,g] S8 S') ⟨[],rfl,rfl,by simp,T8.up (by omega),.refl⟩ ?_ ?_
 ·rintro dn i rest acc S9 J hr ⟨rs,rfl,hl2,hd,T9,k9⟩ hJ
  have hdn:=(range_split hr).2
  have hd0:=(range_split hr).1
  refine ⟨by simp,_,rfl,?_⟩
  simp [wipeE,stepE_wp,-zq0,-zq1,-zq2,-zq3,-zq4,-zq5,-zq6]
  refine rule_wp T9 (by omega) H (List.getElem?_eq_getElem hdn) (k9.get e8 (by simp; omega)) (k9.get en8 (by simp; omega)) ⟨by omega,ne⟩ kn kl ?_
  intro r S10 hdr T10 k10
  simp [-zq0,-zq1,-zq2,-zq3,-zq4,-zq5,-zq6]
  refine ⟨by omega,hJ _ _ ⟨rs ++ [r],by simp,by simp [hl2],fun q hq => ?_,by simpa [Nat.mul_add,Nat.add_assoc] using T10,k9.trans k10⟩⟩
  rcases List.mem_append.mp hq with hq | hq
  ·exact hd q hq
  ·simp at hq; subst hq; exact hdr
 rintro acc S9 ⟨rs,rfl,hl2,hd,T9,k9⟩
 refine ⟨by simp,new_wp ?_⟩
 intro fo S10 e10 k10 g10
 have lk10:=k10.1
 have hrl:rs.length ≤ 3:=by rw [hl2]; simp; omega
 have T10:=T9.keep k10 (by simp) (by simp)
 have l9:=k9.1
 have ltT8:=T8.lt
 have k810:Keep [t,g] S8 S10:=k9.trans (k10.mono (by simp))
 have B9:B + 110 + 2000 * (List.range hs.length).length ≤ B + 6110:=by simp; omega
 have T10:=T10.up B9
 simp [-zq0,-zq1,-zq2,-zq3,-zq4,-zq5,-zq6]
 refine draw_wp T10 (by omega) (by decide) (by decide) ?_
 intro n11 S11 b0 b1 T11 k11
 have e11:=k11.get e10 (by simp; omega)
 simp [-zq0,-zq1,-zq2,-zq3,-zq4,-zq5,-zq6]
 refine ⟨by unfold rngOk; omega,?_⟩
 rw [show (n11:Int) = ((n11.toNat:Nat):Int) by omega]
 have hn2:n11.toNat ≤ 2:=by omega
 have k811:=k810.trans k11
 generalize n11.toNat = m at hn2 ⊢
 refine forR_wp (fun i τ S' => ∃ x6 rs,τ = [some (.loc t),some (.loc nl),some (.loc bl),some (.loc hl),x4,some (.loc fo),x6,none]∧S'[fo]? = some (.lst (rs.map rulP))∧rs.length ≤ 3 + i∧(∀ r ∈ rs,Drawn rk rm r)∧Tray t g (B + 6111 + 2010 * i) S'∧Keep [t,g,fo] S11 S') ⟨_,rs,rfl,e11,by omega,hd,T11.up (by omega),.refl⟩ ?_ ?_
 ·rintro i τ S12 J hi ⟨x6,rs,rfl,e12,hl12,hd12,T12,k12⟩ hJ
  refine ⟨by simp,_,rfl,?_⟩
  simp [e12,-zq0,-zq1,-zq2,-zq3,-zq4,-zq5,-zq6]
  refine draw_wp T12 (by omega) (by omega) (by omega) ?_
  intro j S13 j0 j1 T13 k13
  have k813:Keep [t,g,fo] S8 S13:=(k811.mono (by simp)).trans (k12.trans (k13.mono (by simp)))
  have lf:=lt_of_get e10
  have e813:=k813.get e8 (by simp; omega)
  simp [e813,-zq0,-zq1,-zq2,-zq3,-zq4,-zq5,-zq6]
  refine draw_wp T13 (by omega) (by omega) (by omega) ?_
  intro q S14 q0 q1 T14 k14
  have k814:Keep [t,g,fo] S8 S14:=k813.trans (k14.mono (by simp))
  simp [-zq0,-zq1,-zq2,-zq3,-zq4,-zq5,-zq6]
  rw [show (q:Int) = ((q.toNat:Nat):Int) by omega]
  refine rule_wp T14 (by omega) H (List.getElem?_eq_getElem (by omega:q.toNat < hs.length)) (k814.get e8 (by simp; omega)) (k814.get en8 (by simp; omega)) ⟨by omega,ne⟩ kn kl ?_
  intro r S15 hdr T15 k15
  have k1215:Keep [t,g] S12 S15:=(k13.trans k14).trans k15
  have e15:=k1215.get e12 (by simp; omega)
  simp [e15,-zq0,-zq1,-zq2,-zq3,-zq4,-zq5,-zq6]
  refine ⟨⟨by omega,j0,by omega⟩,hJ _ _ ⟨_,rs.take j.toNat ++ [r] ++ rs.drop j.toNat,rfl,?_,?_,fun z hz => ?_,?_,?_⟩⟩
  ·rw [set_get e15]; simp [List.map_take,List.map_drop]
  ·have:=congrArg List.length (List.take_append_drop j.toNat rs)
   simp only [List.length_append,List.length_cons,List.length_nil] at this ⊢
   omega
  ·rcases mem_ins2.mp hz with rfl | hz
   ·exact hdr
   ·exact hd12 z hz
  ·exact (T15.up (by omega)).keep (M:=[fo]) (.set (by simp)) (by simp; omega) (by simp; omega)
  ·exact (k12.trans (k1215.mono (by simp))).trans (.set (by simp))
 ·rintro τ S12 ⟨x6,rs,rfl,e12,hl12,hd12,T12,k12⟩
  refine ⟨by simp,?_⟩
  simp [e12,-zq0,-zq1,-zq2,-zq3,-zq4,-zq5,-zq6]
  refine h rk rm rs S12 hd12 H.ag (by omega) (T12.up (by omega)) ?_
  have q1:Keep [t,g,hl,fo] S7 S12:=(k8.mono (by simp)).trans ((k811.mono (by simp)).trans (k12.mono (by simp)))
  have q2:Keep [t,g,hl,fo] S S12:=(((((k1.trans k2).trans k25).mono (M':=[t,g]) (by simp)).trans (k6.trans k7)).mono (by simp)).trans q1
  have l16:=k6.1
  have l17:=k7.1
  exact q2.mono (by intro x hx hlt; simp at hx ⊢; omega)
end K59
namespace K59
open PySem PySem.Spec PyProof.Rows L2 PL RU RQ
open Classical
theorem fits_drawn {rk rm:Str→Nat} {rs:List Rul} (h:∀ r ∈ rs,Drawn rk rm r) (hl:rs.length ≤ 12):Fits rs:=by
 refine ⟨?_,fun r hr => by have:=(h r hr).few; omega,fun r hr p hp => by have:=(h r hr).tm p hp; omega⟩
 have:(allParts rs).length ≤ rs.length * 6:=len_flatMap_le fun r hr => by
  have:=(h r hr).few
  simp [parts]; omega
 omega
def AllD (rk rm:Str→Nat) (rs:List Rul):Prop:=∀ r ∈ rs,Drawn rk rm r
theorem z_name {x:Str} (h:Nm x):RlOk (cutS (x ++ Str.ofString "z") (some (-8)) none):=by
 obtain ⟨w,hw⟩:∃ w,w = x ++ Str.ofString "z" := ⟨_,rfl⟩
 have hz:ch (Str.ofString "z") = [122]:=by decide +kernel
 have hc:ch w = ch x ++ [122]:=by rw [hw,ch_app,hz]
 have hl:w.length = x.length + 1:=by rw [← ch_len,hc]; simp [ch_len]
 rw [← hw]
 have hp:=h.p
 have hq:=h.q
 have h1:HT.sIx w.length 0 (some (-8)) = w.length - 8:=by
  have:=HT.clip_eq (-8) w.length 0
  rw [if_pos (by decide)] at this
  omega
 have hcut:ch (cutS w (some (-8)) none) = (ch x ++ [122]).drop (w.length - 8):=by
  rw [ch_cut,h1,HT.sIx_none,hc]
  refine List.take_of_length_le ?_
  have:=ch_len x
  simp; omega
 have hcl:(cutS w (some (-8)) none).length = w.length - (w.length - 8):=by
  rw [← ch_len,hcut]
  have:=ch_len x
  simp; omega
 have hlast:(ch (cutS w (some (-8)) none)).getLast? = some 122:=by
  rw [hcut,List.drop_append_of_le_length (by rw [ch_len]; omega)]
  simp
 refine ⟨⟨fun c hc => ?_,by omega,by omega⟩,fun z => ?_,fun z => ?_⟩
 ·rw [hcut] at hc
  have hc:=List.mem_of_mem_drop hc
  rcases List.mem_append.mp hc with q | q
  ·exact h.l c q
  ·simp at q; subst q; unfold Lt; omega
 ·rw [z,c_if] at hlast; simp at hlast
 ·rw [z,c_not] at hlast; simp at hlast
theorem tabs_ws {ws ws':List Str} (h1:sortK ((rdP tabs).map (·.1)) = ws.map Sum.inr):∀ x,x ∈ ws↔x ∈ tabs.map (·.1):=by
 obtain ⟨ws',h2,h3⟩:=sort_names (ks:=tabs.map (·.1))
 have e:((rdP tabs).map (·.1)) = (tabs.map (·.1)).map Sum.inr:=by simp [rdP,Function.comp_def]
 rw [e,h2] at h1
 have hww:ws' = ws:=map_inj_of (fun a b e => by injection e) h1
 rw [← hww]
 exact h3
theorem alike_tabs:PLs.Alike true ((rdP tabs).map (·.1)):=fun q hq => by
 obtain ⟨z,hz,rfl⟩:=List.mem_map.mp hq
 simp only [rdP,List.mem_map] at hz
 obtain ⟨y,_,rfl⟩:=hz
 rfl
theorem drawn_fact {rk rm:Str→Nat} {rs:List Rul} {z lo:Str} {i:Int} (hd:AllD rk rm rs) (ag:agK rm rooms) (hz:RlOk z) (hn:∀ r ∈ rs,∀ p ∈ parts r,p.1 ≠ z) (hr:¬ IsRoom z) (hi:SmI i) (hlo:Tx12 lo):AllD rk (fun x => if x = z then 2 else rm x) (rs ++ [((z,[Trm.num i,Trm.txt lo]),[])])∧agK (fun x => if x = z then 2 else rm x) rooms:=by
 constructor
 ·intro r hm
  rcases List.mem_append.mp hm with q | q
  ·exact (hd r q).put (hn r q)
  ·simp only [List.mem_singleton] at q
   subst q
   refine ⟨⟨⟨hz,fun t ht => ?_⟩,by simp⟩,hr,fun p hp => ?_,by simp,?_,by simp,fun p hp => ?_⟩
   ·simp at ht
    rcases ht with rfl | rfl
    ·exact hi
    ·exact ⟨hlo.l,hlo.p,hlo.q⟩
   ·simp [parts] at hp
    subst hp
    simp
   ·rintro ⟨p,hp,x,hx,_⟩
    simp [parts] at hp
    subst hp
    simp [nmsOf] at hx
   ·simp [parts] at hp
    subst hp
    simp
 ·intro q hq
  have:q.1 ≠ z:=fun e => hr ⟨q,hq,e⟩
  simp only
  rw [if_neg this]
  exact ag q hq
theorem main:LawMain 63 m_law:=by
 intro ns hn
 unfold m_law
 rw [callS_wp]
 simp [startE,-zq0,-zq1,-zq2,-zq3,-zq4,-zq5,-zq6]
 refine tray_wp hn ?_
 intro t g S T
 have lcut:(cutP (ns.map PV.int) none (some 12)).length ≤ 63:=by
  unfold cutP
  simp only [List.length_take,List.length_drop,List.length_map]
  omega
 simp [-zq0,-zq1,-zq2,-zq3,-zq4,-zq5,-zq6]
 generalize cutP (ns.map PV.int) none (some 12) = cs at *
 have T:=T.keep (S':=S ++ [.lst cs]) (M:=[]) .app (by simp) (by simp)
 generalize S ++ [.lst cs] = S at *
 rw [show (2 + (cs.length:Int)) = ((cs.length + 2:Nat):Int) by omega]
 refine ⟨by unfold rngOk; omega,?_⟩
 refine forR_wp (fun i τ S' => (∃ x2 x3 x4 x5 x6 x7 x8 x9,τ = [some (.fls (ns.map PV.int)),some (.loc t),x2,x3,x4,x5,x6,x7,x8,x9])∧Tray t g (40000 * i) S') ⟨⟨_,_,_,_,_,_,_,_,rfl⟩,T⟩ ?_ ?_
 ·rintro i τ S1 J hi ⟨⟨x2,x3,x4,x5,x6,x7,x8,x9,rfl⟩,T1⟩ hJ
  refine ⟨by simp,_,rfl,?_⟩
  have ltT1:=T1.lt
  simp [-zq0,-zq1,-zq2,-zq3,-zq4,-zq5,-zq6]
  refine long_wp T1 (by omega) ?_
  intro lo S2 hlo T2 k2
  simp [-zq0,-zq1,-zq2,-zq3,-zq4,-zq5,-zq6]
  refine lst_wp (by simp) ?_
  intro n3 S3 e3 k3 g3
  have lk3:=k3.1
  have T3:=T2.keep k3 (by simp) (by simp)
  simp [-zq0,-zq1,-zq2,-zq3,-zq4,-zq5,-zq6]
  refine draw_wp T3 (by omega) (by decide) (by decide) ?_
  intro n4 S4 a0 a1 T4 k4
  have ltT2:=T2.lt
  simp [-zq0,-zq1,-zq2,-zq3,-zq4,-zq5,-zq6]
  refine lst_wp (by simp) ?_
  intro n5 S5 e5 k5 g5
  have lk5:=k5.1
  have T5:=T4.keep k5 (by simp) (by simp)
  have ltT3:=T3.lt
  have ltT4:=T4.lt
  have l4:=k4.1
  simp [-zq0,-zq1,-zq2,-zq3,-zq4,-zq5,-zq6]
  refine namesU_wp (us:=[]) T5 (by omega) e5 (by omega) (by omega) (by simp) (by simp) a0 (by omega) ?_
  intro n6 xs S6 e6 g6 hxl _ hxn _ _ T6 k6
  have e36:=k6.get (k5.get (k4.get e3 (by simp; omega)) (by simp)) (by simp; omega)
  simp [-zq0,-zq1,-zq2,-zq3,-zq4,-zq5,-zq6]
  refine addL_wp e36 e6 (by simp; omega) ?_
  intro nl S7 e7 k7 g7
  have lk7:=k7.1
  have e7:S7[nl]? = some (.lst ((lo :: xs).map PV.str)):=by rw [e7]; rfl
  have T7:=T6.keep k7 (by simp) (by simp)
  have ltT6:=T6.lt
  have kn:∀ x ∈ lo :: xs,Tx12 x:=fun x hx => by
   rcases List.mem_cons.mp hx with rfl | hx
   ·exact hlo
   ·exact Nm.tx (hxn x hx)
  simp [-e_seqS,-zq0,-zq1,-zq2,-zq3,-zq4,-zq5,-zq6]
  refine seq_split (fun τ S' => ∃ (rk rm:Str→Nat) (rs:List Rul),AllD rk rm rs∧agK rm rooms∧rs.length ≤ 5∧τ = [some (.fls (ns.map PV.int)),some (.loc t),some (.int (i:Nat)),some (.loc nl),some (.tup (rs.map rulP)),x5,x6,x7,x8,x9]∧Tray t g (40000 * i + 20200) S'∧Keep [t,g] S7 S') ?_ ?_
  ·simp [-zq0,-zq1,-zq2,-zq3,-zq4,-zq5,-zq6]
   refine rules_wp T7 (by omega) e7 (by omega) kn (by simp; omega) ?_
   intro rk rm rs S8 hd ag hl5 T8 k8
   simp [-zq0,-zq1,-zq2,-zq3,-zq4,-zq5,-zq6]
   refine draw_wp T8 (by omega) (by decide) (by decide) ?_
   intro n9 S9 b0 b1 T9 k9
   obtain ⟨j,rfl⟩:=Int.eq_ofNat_of_zero_le b0
   simp [-zq0,-zq1,-zq2,-zq3,-zq4,-zq5,-zq6]
   refine ⟨rk,rm,rs.drop j,fun r hr => hd r (List.mem_of_mem_drop hr),ag,by rw [List.length_drop]; omega,?_,T9.up (by omega),k8.trans k9⟩
   rw [cut_drop,List.map_drop]
  rintro τ S8 ⟨rk,rm,rs,hd,ag,hl5,rfl,T8,k8⟩
  have e78:=k8.get e7 (by simp; omega)
  refine seq_split (fun τ S' => ∃ (rm:Str→Nat) (rs:List Rul) (x6 x7 x8 x9:Option PV),AllD rk rm rs∧agK rm rooms∧rs.length ≤ 6∧τ = [some (.fls (ns.map PV.int)),some (.loc t),some (.int (i:Nat)),some (.loc nl),some (.tup (rs.map rulP)),x5,x6,x7,x8,x9]∧Tray t g (40000 * i + 30000) S') ?_ ?_
  ·simp [-zq0,-zq1,-zq2,-zq3,-zq4,-zq5,-zq6]
   refine draw_wp T8 (by omega) (by decide) (by decide) ?_
   intro n9 S9 b0 b1 T9 k9
   simp [-zq0,-zq1,-zq2,-zq3,-zq4,-zq5,-zq6]
   refine ⟨fun _ => ?_,fun _ => ⟨rm,rs,hd,ag,by omega,rfl,T9.up (by omega)⟩⟩
   have ltT9:=T9.lt
   refine tables_wp ?_
   intro d10 S10 e10 k10 g10
   have lk10:=k10.1
   have T10:=T9.keep k10 (by simp) (by simp)
   simp [-zq0,-zq1,-zq2,-zq3,-zq4,-zq5,-zq6]
   obtain ⟨ws,hws,hw12,hwt⟩:=sort_tabs
   have hwm:=tabs_ws (ws':=[]) hws
   refine sortDk_wp (b:=true) e10 alike_tabs ?_
   intro wl S11 e11 k11 g11
   have lk11:=k11.1
   have e11:S11[wl]? = some (.lst (ws.map PV.str)):=by rw [e11,hws,List.map_map]; rfl
   simp [-zq0,-zq1,-zq2,-zq3,-zq4,-zq5,-zq6]
   refine lst_wp (by simp) ?_
   intro n12 S12 e12 k12 g12
   have lk12:=k12.1
   simp [-zq0,-zq1,-zq2,-zq3,-zq4,-zq5,-zq6]
   refine addL_wp (k12.get e11 (by simp)) e12 (by simp [hw12]) ?_
   intro bl S13 e13 k13 g13
   have lk13:=k13.1
   have e13:S13[bl]? = some (.lst ((ws ++ [Str.ofString "same",Str.ofString "not"]).map PV.str)):=by rw [e13]; simp
   have k913:=((k10.trans k11).trans k12).trans k13
   have T13:=T9.keep k913 (by simp) (by simp)
   have husN:∀ x ∈ ws ++ [Str.ofString "same",Str.ofString "not"],Nm x:=fun x hx => by
    rcases List.mem_append.mp hx with q | q
    ·obtain ⟨v,hv⟩:=hwt x q
     exact (room_ok (tab_room hv)).1.1
    ·have:∀ x ∈ [Str.ofString "same",Str.ofString "not"],(∀ c ∈ ch x,97 ≤ c∧c ≤ 122)∧1 ≤ x.length∧x.length ≤ 8:=by decide +kernel
     obtain ⟨a,b,c⟩:=this x q
     exact ⟨a,b,c⟩
   have l10:=k10.1
   have l11:=k11.1
   have l12:=k12.1
   simp [-zq0,-zq1,-zq2,-zq3,-zq4,-zq5,-zq6]
   refine namesU_wp (us:=ws ++ [Str.ofString "same",Str.ofString "not"]) T13 (by omega) e13 (by omega) (by omega) husN (by simp [hw12]) (by decide) (by decide) ?_
   intro n14 ys S14 e14 g14 hyl _ hyn _ _ T14 k14
   obtain ⟨y,rfl⟩:∃ y,ys = [y]:=by
    match ys,hyl with
    | [y],_ => exact ⟨y,rfl⟩
    | [],h => simp at h
    | _ :: _ :: _,h => simp at h; omega
   have hyN:=hyn y (by simp)
   have hzN:=z_name hyN
   have e14:S14[n14]? = some (.lst [.str y]):=e14
   have hyq:=hyN.q
   have hz1:(Str.ofString "z").length = 1:=by decide +kernel
   have hyz:(y ++ Str.ofString "z").length ≤ 16777216:=by rw [RU.app_len,hz1]; omega
   have hyz1:y.length + 1 ≤ 16777216:=by omega
   simp [e14,hz1,hyz,hyz1,-zq0,-zq1,-zq2,-zq3,-zq4,-zq5,-zq6]
   obtain ⟨z,hz⟩:∃ z,z = cutS (y ++ Str.ofString "z") (some (-8)) none:=⟨_,rfl⟩
   rw [← hz] at hzN ⊢
   refine accK_wp rulP (fun r => PV.str r.1.1) (xs:=rs) (fun S' k => by simp) (by simp; omega) (fun r hr acc S15 J2 hl15 k15 hJ2 => ⟨_,rfl,?_⟩) ?_
   ·simp [wipeE,stepE_wp,rulP,atmP,-zq0,-zq1,-zq2,-zq3,-zq4,-zq5,-zq6]
    exact ⟨hl15,hJ2 S15 k15⟩
   intro S15 k15
   refine new_wp ?_
   intro n16 S16 e16 k16 g16
   have lk16:=k16.1
   have e16:S16[n16]? = some (.lst ((rs.map fun r => r.1.1).map PV.str)):=by rw [e16,List.nil_append,List.map_map]; rfl
   have T16:=(T14.keep k15 (by simp) (by simp)).keep k16 (by simp) (by simp)
   have k816:Keep [t,g] S8 S16:=(k9.trans (k913.mono (by simp))).trans (k14.trans ((k15.trans k16).mono (by simp)))
   simp [-zq0,-zq1,-zq2,-zq3,-zq4,-zq5,-zq6]
   refine forM_wp rulP (fun dn τ S' => ∃ (n7:Nat) (ws7:List Str) (x8 x9:Option PV),τ = [some (.fls (ns.map PV.int)),some (.loc t),some (.int (i:Nat)),some (.loc nl),some (.tup (rs.map rulP)),x5,some (.str z),some (.loc n7),x8,x9]∧S'[n7]? = some (.lst (ws7.map PV.str))∧ws7.length ≤ 5 + 5 * dn.length∧(∀ r ∈ rs,r.1.1 ∈ ws7)∧(∀ r ∈ dn,∀ l ∈ r.2,l.1 ∈ ws7)∧Keep [] S16 S') ⟨n16,_,_,_,rfl,e16,by simp; omega,fun r hr => List.mem_map_of_mem hr,by simp,.refl⟩ ?_ ?_
   ·rintro dn r rest τ S17 J2 hrs ⟨n7,ws7,x8,x9,rfl,e17,hl7,hh7,hd7,k17⟩ hJ2
    have hr:r ∈ rs:=by rw [hrs]; simp
    have few:=(hd r hr).few
    have hdn:dn.length < 5:=by
     have:=congrArg List.length hrs
     simp at this; omega
    refine ⟨by simp,_,rfl,?_⟩
    simp [rulP,-zq0,-zq1,-zq2,-zq3,-zq4,-zq5,-zq6]
    refine accK_wp litP (fun l => PV.str l.1) (xs:=r.2) (fun S' k => by simp) (by simp; omega) (fun l hl acc S18 J3 hl18 k18 hJ3 => ⟨_,rfl,?_⟩) ?_
    ·simp [wipeE,stepE_wp,litP,-zq0,-zq1,-zq2,-zq3,-zq4,-zq5,-zq6]
     exact ⟨hl18,hJ3 S18 k18⟩
    intro S18 k18
    refine new_wp ?_
    intro n19 S19 e19 k19 g19
    have lk19:=k19.1
    have e19:S19[n19]? = some (.lst ((r.2.map fun l => l.1).map PV.str)):=by rw [e19,List.nil_append,List.map_map]; rfl
    simp [-zq0,-zq1,-zq2,-zq3,-zq4,-zq5,-zq6]
    refine addL_wp ((k18.trans k19).get e17 (by simp)) e19 (by simp; omega) ?_
    intro n20 S20 e20 k20 g20
    have lk20:=k20.1
    simp [-zq0,-zq1,-zq2,-zq3,-zq4,-zq5,-zq6]
    refine hJ2 _ _ ⟨n20,ws7 ++ (r.2.map fun l => l.1),_,_,rfl,by rw [e20,List.map_append],by simp; omega,fun q hq => List.mem_append_left _ (hh7 q hq),fun q hq l hl => ?_,k17.trans ((k18.trans k19).trans k20)⟩
    rcases List.mem_append.mp hq with hq | hq
    ·exact List.mem_append_left _ (hd7 q hq l hl)
    ·simp at hq; subst hq
     exact List.mem_append_right _ (List.mem_map_of_mem hl)
   rintro τ S17 ⟨n7,ws7,x8,x9,rfl,e17,hl7,hh7,hd7,k17⟩
   refine ⟨by simp,?_⟩
   have T17:=T16.keep k17 (by simp) (by simp)
   simp [-zq0,-zq1,-zq2,-zq3,-zq4,-zq5,-zq6]
   refine tables_wp ?_
   intro d18 S18 e18 k18 g18
   have lk18:=k18.1
   simp [-zq0,-zq1,-zq2,-zq3,-zq4,-zq5,-zq6]
   refine sortDk_wp (b:=true) e18 alike_tabs ?_
   intro wl2 S19 e19 k19 g19
   have lk19:=k19.1
   have e19:S19[wl2]? = some (.lst (ws.map PV.str)):=by rw [e19,hws,List.map_map]; rfl
   simp [-zq0,-zq1,-zq2,-zq3,-zq4,-zq5,-zq6]
   refine addL_wp ((k18.trans k19).get e17 (by simp)) e19 (by simp [hw12]; omega) ?_
   intro n20 S20 e20 k20 g20
   have lk20:=k20.1
   simp [-zq0,-zq1,-zq2,-zq3,-zq4,-zq5,-zq6]
   refine lst_wp (by simp) ?_
   intro n21 S21 e21 k21 g21
   have lk21:=k21.1
   simp [-zq0,-zq1,-zq2,-zq3,-zq4,-zq5,-zq6]
   refine addL_wp (k21.get e20 (by simp)) e21 (by simp [hw12]; omega) ?_
   intro n22 S22 e22 k22 g22
   have lk22:=k22.1
   have e22:S22[n22]? = some (.lst ((ws7 ++ ws ++ [Str.ofString "same",Str.ofString "not"]).map PV.str)):=by rw [e22]; simp
   have hin:=inB_strs (x:=z) e22
   have k1722:=(((k18.trans k19).trans k20).trans k21).trans k22
   have T22:=T17.keep k1722 (by simp) (by simp)
   by_cases hzin:z ∈ ws7 ++ ws ++ [Str.ofString "same",Str.ofString "not"]
   ·rw [decide_eq_true hzin] at hin
    simp [hin,-zq0,-zq1,-zq2,-zq3,-zq4,-zq5,-zq6]
    exact ⟨rm,rs,hd,ag,by omega,rfl,T22.up (by omega)⟩
   rw [decide_eq_false hzin] at hin
   simp only [List.mem_append,not_or] at hzin
   obtain ⟨⟨hz1,hz2⟩,hz3⟩:=hzin
   have k822:Keep [t,g] S8 S22:=k816.trans ((k17.trans k1722).mono (by simp))
   simp [hin,-zq0,-zq1,-zq2,-zq3,-zq4,-zq5,-zq6]
   refine whole2_wp T22 (by omega) ?_
   intro wi S23 hwi T23 k23
   have e23:=(k822.trans k23).get e78 (by simp; omega)
   have e23:S23[nl]? = some (.lst (.str lo :: xs.map PV.str)):=e23
   simp [e23,-zq0,-zq1,-zq2,-zq3,-zq4,-zq5,-zq6]
   have hnr:¬ IsRoom z:=by
    rintro ⟨⟨y,v⟩,hq,rfl⟩
    simp only at hz2 hz3
    by_cases hs:y = Str.ofString "same"
    ·exact hz3 (by rw [hs]; simp)
    ·have:(y,v) ∈ tabs:=by
      simp only [tabs,rooms,List.mem_cons,List.not_mem_nil,or_false,Prod.mk.injEq] at hq ⊢
      rcases hq with q | q | q | q | q | q | q | q | q | q | q | q | q
      all_goals first | (exact absurd q.1 hs) | (simp [q])
     exact hz2 ((hwm y).mpr (List.mem_map.mpr ⟨_,this,rfl⟩))
   obtain ⟨f1,f2⟩:=drawn_fact (z:=z) (lo:=lo) (i:=wi) hd ag hzN (fun r hr p hp e => by
    rcases List.mem_cons.mp hp with rfl | hp
    ·exact hz1 (e ▸ hh7 r hr)
    ·obtain ⟨l,hl,rfl⟩:=List.mem_map.mp hp
     exact hz1 (e ▸ hd7 r hr l hl)) hnr hwi hlo
   refine ⟨by omega,_,_,f1,f2,by simp; omega,by simp [rulP,atmP,Trm.pv],T23.up (by omega)⟩
  rintro τ S9 ⟨rm,rs,x6,x7,x8,x9,hd,ag,hl6,rfl,T9⟩
  have hok:∀ r ∈ rs,RuOk r:=fun r hr => (hd r hr).ok
  have hlen:=rsT_len hd (by omega)
  have hfit:=fits_drawn hd (by omega)
  have hno:=fault_drawn hd ag
  have l16:(rsT rs).length ≤ 16777216:=by omega
  simp [-zq0,-zq1,-zq2,-zq3,-zq4,-zq5,-zq6]
  refine lrules_shown_wp hok (by omega) ?_
  intro S10 k10
  simp [-zq0,-zq1,-zq2,-zq3,-zq4,-zq5,-zq6]
  refine show_rules_wp hok (by omega) ?_
  intro S11 k11
  simp [-zq0,-zq1,-zq2,-zq3,-zq4,-zq5,-zq6]
  refine alike_str ?_
  simp [-zq0,-zq1,-zq2,-zq3,-zq4,-zq5,-zq6]
  refine show_rules_wp hok (by omega) ?_
  intro S12 k12
  simp [-zq0,-zq1,-zq2,-zq3,-zq4,-zq5,-zq6]
  refine alike_str ?_
  have fin:∀ S13,Keep [] S12 S13→J [some (.fls (ns.map PV.int)),some (.loc t),some (.int (i:Nat)),some (.loc nl),some (.tup (rs.map rulP)),some (.str (rsT rs)),x6,x7,x8,x9] S13:=fun S13 k13 => hJ _ _ ⟨⟨_,_,_,_,_,_,_,_,rfl⟩,(T9.keep (((k10.trans k11).trans k12).trans k13) (by simp) (by simp)).up (by omega)⟩
  simp [l16,-zq0,-zq1,-zq2,-zq3,-zq4,-zq5,-zq6]
  refine ⟨fun h4 => ?_,fun _ => fin S12 .refl⟩
  have h4':(rsT rs).length ≤ 10000:=by omega
  refine read_rules_wp h4' (rdRs_show hok) hfit hno ?_
  intro S13 k13
  simp [-zq0,-zq1,-zq2,-zq3,-zq4,-zq5,-zq6]
  refine alike_rules hfit ?_
  simp [-zq0,-zq1,-zq2,-zq3,-zq4,-zq5,-zq6]
  refine read_rules_wp h4' (rdRs_show hok) hfit hno ?_
  intro S14 k14
  simp [-zq0,-zq1,-zq2,-zq3,-zq4,-zq5,-zq6]
  refine alike_rules hfit ?_
  simp [-zq0,-zq1,-zq2,-zq3,-zq4,-zq5,-zq6]
  exact fin S14 (k13.trans k14)
 ·rintro τ S1 ⟨⟨x2,x3,x4,x5,x6,x7,x8,x9,rfl⟩,T1⟩
  refine ⟨by simp,?_⟩
  simp
end K59
open PySem PySem.W PyProof.Rows
set_option maxHeartbeats 0 in
theorem PySem.Challenge.cw_codeasks_k59_rules_written_and_read_holds : PySem.Challenge.rw_codeasks_k59_rules_written_and_read.Holds := by
 w_on; o_law; k_head; (case hw => w_witness2)
 k_fill
 refine L2.walk_of (l:=PySem.Challenge.rw_codeasks_k59_rules_written_and_read) (n:=63) (k:=16) (x := "_law_script") (CX:=fun w => L2.CX PySem.Challenge.rw_codeasks_k59_rules_written_and_read.prog w) (sp:=fun w => PL.spLaw _ 63) rfl (by decide) rfl ⟨rfl,by decide,by decide⟩ (fun w h Y => PySem.W.kIn_of Y) ?F (fun w H a ns hl hO hS => PL.spLaw_end hl hO hS) (fun w H s e s' h => PL.cx_end h)
 case F =>
  intro w mg fa h KX G hmg
  refine' K59.law_facts K59.main (w:=w) KX G hmg ?l_q15 ?c_q15 ?k_q15 ?a_q15 ?l_q20 ?c_q20 ?k_q20 ?a_q20 ?l_q5 ?c_q5 ?k_q5 ?a_q5 ?l_q23 ?c_q23 ?k_q23 ?a_q23 ?l_q13 ?c_q13 ?k_q13 ?a_q13 ?l_q32 ?c_q32 ?k_q32 ?a_q32 ?l_q27 ?c_q27 ?k_q27 ?a_q27 ?l_q26 ?c_q26 ?k_q26 ?a_q26 ?l_q29 ?c_q29 ?k_q29 ?a_q29 ?l_q30 ?c_q30 ?k_q30 ?a_q30 ?l_q24 ?c_q24 ?k_q24 ?a_q24 ?l_q28 ?c_q28 ?k_q28 ?a_q28 ?l_q4 ?c_q4 ?k_q4 ?a_q4 ?l_q35 ?c_q35 ?k_q35 ?a_q35 ?l_q25 ?c_q25 ?k_q25 ?a_q25 ?l_q33 ?c_q33 ?k_q33 ?a_q33 ?l_q31 ?c_q31 ?k_q31 ?a_q31 ?l_q12 ?c_q12 ?k_q12 ?a_q12 ?l_q34 ?c_q34 ?k_q34 ?a_q34 ?l_q7 ?c_q7 ?k_q7 ?a_q7 ?l_q21 ?c_q21 ?k_q21 ?a_q21 ?l_q16 ?c_q16 ?k_q16 ?a_q16 ?l_q9 ?c_q9 ?k_q9 ?a_q9 ?l_q10 ?c_q10 ?k_q10 ?a_q10 ?l_q19 ?c_q19 ?k_q19 ?a_q19 ?l_q8 ?c_q8 ?k_q8 ?a_q8 ?l_q14 ?c_q14 ?k_q14 ?a_q14 ?l_q6 ?c_q6 ?k_q6 ?a_q6 ?l_q17 ?c_q17 ?k_q17 ?a_q17 ?l_q2 ?c_q2 ?k_q2 ?a_q2 ?l_q18 ?c_q18 ?k_q18 ?a_q18 ?l_q22 ?c_q22 ?k_q22 ?a_q22 ?l_q11 ?c_q11 ?k_q11 ?a_q11 ?l_q3 ?c_q3 ?k_q3 ?a_q3 ?l_q1 ?c_q1 ?k_q1 ?a_q1 ?l_q0 ?c_q0 ?k_q0 ?a_q0 ?l_law ?c_law ?k_law ?a_law ?l_einit ?c_einit ?k_einit ?ti_einit ?cg ?cta ?a_NoRules ?xl_NoRules ?rv_NoRules ?sa_NoRules ?be_NoRules ?ty_NoRules ?kp_NoRules ?at_xNoRules ?wn_NoRules ?hx_NoRules ?a_NoText ?xl_NoText ?rv_NoText ?sa_NoText ?be_NoText ?ty_NoText ?kp_NoText ?at_xNoText ?wn_NoText ?hx_NoText ?a_AskError ?xl_AskError ?rv_AskError ?sa_AskError ?be_AskError ?ty_AskError ?kp_AskError ?at_xAskError ?wn_AskError ?hx_AskError ?sub_NoRules_NoRules ?c_LETTERS ?c_MOST_LETTERS ?c_SAME ?c_FIGURES ?c_MOST_FIGURES ?c_MOST_TEXT ?a_NO_RELATIONS ?l_NO_RELATIONS ?zt_NO_RELATIONS ?a_ROOMS ?l_ROOMS ?zs_ROOMS ?zr_ROOMS ?n_all ?n_any ?n_bool ?n_dict ?n_int ?n_isinstance ?n_len ?n_list ?n_max ?n_range ?n_set ?n_sorted ?n_str ?n_tuple
  (case a_q15 => k_is)
  (case a_q20 => k_is)
  (case a_q5 => k_is)
  (case a_q23 => k_is)
  (case a_q13 => k_is)
  (case a_q32 => k_is)
  (case a_q27 => k_is)
  (case a_q26 => k_is)
  (case a_q29 => k_is)
  (case a_q30 => k_is)
  (case a_q24 => k_is)
  (case a_q28 => k_is)
  (case a_q4 => k_is)
  (case a_q35 => k_is)
  (case a_q25 => k_is)
  (case a_q33 => k_is)
  (case a_q31 => k_is)
  (case a_q12 => k_is)
  (case a_q34 => k_is)
  (case a_q7 => k_is)
  (case a_q21 => k_is)
  (case a_q16 => k_is)
  (case a_q9 => k_is)
  (case a_q10 => k_is)
  (case a_q19 => k_is)
  (case a_q8 => k_is)
  (case a_q14 => k_is)
  (case a_q6 => k_is)
  (case a_q17 => k_is)
  (case a_q2 => k_is)
  (case a_q18 => k_is)
  (case a_q22 => k_is)
  (case a_q11 => k_is)
  (case a_q3 => k_is)
  (case a_q1 => k_is)
  (case a_q0 => k_is)
  (case a_law => k_is)
  (case a_NoRules => k_is)
  (case a_NoText => k_is)
  (case a_AskError => k_is)
  (case a_NO_RELATIONS => k_is)
  (case a_ROOMS => k_is)
  (case at_xNoRules => k_is)
  (case at_xNoText => k_is)
  (case at_xAskError => k_is)
  (case l_q15 => k_is)
  (case l_q20 => k_is)
  (case l_q5 => k_is)
  (case l_q23 => k_is)
  (case l_q13 => k_is)
  (case l_q32 => k_is)
  (case l_q27 => k_is)
  (case l_q26 => k_is)
  (case l_q29 => k_is)
  (case l_q30 => k_is)
  (case l_q24 => k_is)
  (case l_q28 => k_is)
  (case l_q4 => k_is)
  (case l_q35 => k_is)
  (case l_q25 => k_is)
  (case l_q33 => k_is)
  (case l_q31 => k_is)
  (case l_q12 => k_is)
  (case l_q34 => k_is)
  (case l_q7 => k_is)
  (case l_q21 => k_is)
  (case l_q16 => k_is)
  (case l_q9 => k_is)
  (case l_q10 => k_is)
  (case l_q19 => k_is)
  (case l_q8 => k_is)
  (case l_q14 => k_is)
  (case l_q6 => k_is)
  (case l_q17 => k_is)
  (case l_q2 => k_is)
  (case l_q18 => k_is)
  (case l_q22 => k_is)
  (case l_q11 => k_is)
  (case l_q3 => k_is)
  (case l_q1 => k_is)
  (case l_q0 => k_is)
  (case l_law => k_is)
  (case l_einit => k_is)
  (case l_NO_RELATIONS => k_is)
  (case l_ROOMS => k_is)
  (case c_q15 => k_is)
  (case k_q15 => k_is)
  (case c_q20 => k_is)
  (case k_q20 => k_is)
  (case c_q5 => k_is)
  (case k_q5 => k_is)
  (case c_q23 => k_is)
  (case k_q23 => k_is)
  (case c_q13 => k_is)
  (case k_q13 => k_is)
  (case c_q32 => k_is)
  (case k_q32 => k_is)
  (case c_q27 => k_is)
  (case k_q27 => k_is)
  (case c_q26 => k_is)
  (case k_q26 => k_is)
  (case c_q29 => k_is)
  (case k_q29 => k_is)
  (case c_q30 => k_is)
  (case k_q30 => k_is)
  (case c_q24 => k_is)
  (case k_q24 => k_is)
  (case c_q28 => k_is)
  (case k_q28 => k_is)
  (case c_q4 => k_is)
  (case k_q4 => k_is)
  (case c_q35 => k_is)
  (case k_q35 => k_is)
  (case c_q25 => k_is)
  (case k_q25 => k_is)
  (case c_q33 => k_is)
  (case k_q33 => k_is)
  (case c_q31 => k_is)
  (case k_q31 => k_is)
  (case c_q12 => k_is)
  (case k_q12 => k_is)
  (case c_q34 => k_is)
  (case k_q34 => k_is)
  (case c_q7 => k_is)
  (case k_q7 => k_is)
  (case c_q21 => k_is)
  (case k_q21 => k_is)
  (case c_q16 => k_is)
  (case k_q16 => k_is)
  (case c_q9 => k_is)
  (case k_q9 => k_is)
  (case c_q10 => k_is)
  (case k_q10 => k_is)
  (case c_q19 => k_is)
  (case k_q19 => k_is)
  (case c_q8 => k_is)
  (case k_q8 => k_is)
  (case c_q14 => k_is)
  (case k_q14 => k_is)
  (case c_q6 => k_is)
  (case k_q6 => k_is)
  (case c_q17 => k_is)
  (case k_q17 => k_is)
  (case c_q2 => k_is)
  (case k_q2 => k_is)
  (case c_q18 => k_is)
  (case k_q18 => k_is)
  (case c_q22 => k_is)
  (case k_q22 => k_is)
  (case c_q11 => k_is)
  (case k_q11 => k_is)
  (case c_q3 => k_is)
  (case k_q3 => k_is)
  (case c_q1 => k_is)
  (case k_q1 => k_is)
  (case c_q0 => k_is)
  (case k_q0 => k_is)
  (case c_law => k_is)
  (case k_law => k_is)
  (case c_einit => k_is)
  (case k_einit => k_is)
  (case ti_einit => k_is)
  (case cg => k_is)
  (case cta => k_is)
  (case xl_NoRules => k_is)
  (case rv_NoRules => first | rfl | decide +kernel)
  (case sa_NoRules => k_is)
  (case be_NoRules => k_is)
  (case ty_NoRules => k_is)
  (case kp_NoRules => k_is)
  (case wn_NoRules => k_is)
  (case hx_NoRules => k_is)
  (case xl_NoText => k_is)
  (case rv_NoText => first | rfl | decide +kernel)
  (case sa_NoText => k_is)
  (case be_NoText => k_is)
  (case ty_NoText => k_is)
  (case kp_NoText => k_is)
  (case wn_NoText => k_is)
  (case hx_NoText => k_is)
  (case xl_AskError => k_is)
  (case rv_AskError => first | rfl | decide +kernel)
  (case sa_AskError => k_is)
  (case be_AskError => k_is)
  (case ty_AskError => k_is)
  (case kp_AskError => k_is)
  (case wn_AskError => k_is)
  (case hx_AskError => k_is)
  (case sub_NoRules_NoRules => k_is)
  (case c_LETTERS => k_is)
  (case c_MOST_LETTERS => k_is)
  (case c_SAME => k_is)
  (case c_FIGURES => k_is)
  (case c_MOST_FIGURES => k_is)
  (case c_MOST_TEXT => k_is)
  (case zt_NO_RELATIONS => repeat' (first | exact .nil | refine .cons ⟨_,rfl⟩ ?_))
  (case zs_ROOMS => first | rfl | decide +kernel)
  (case zr_ROOMS => repeat' (first | exact True.intro | refine ⟨⟨_,_,rfl,rfl,rfl⟩,?_⟩))
  (case n_all => k_is)
  (case n_any => k_is)
  (case n_bool => k_is)
  (case n_dict => k_is)
  (case n_int => k_is)
  (case n_isinstance => k_is)
  (case n_len => k_is)
  (case n_list => k_is)
  (case n_max => k_is)
  (case n_range => k_is)
  (case n_set => k_is)
  (case n_sorted => k_is)
  (case n_str => k_is)
  (case n_tuple => k_is)
