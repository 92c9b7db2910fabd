import PyProof.Rows.All
import Wide.All
import OpenK.AllK
import Wide.FinOn
import HandS.Call
import HandS.List
import HandS.TupAny
import HandS.Iter
import HandS.Base
import HandS.Comp
import HandS.Exc
import HandS.ExcOwn
import KE.KDictCopyH
import KE.KNestM
import KE.KeyNested
import HandS.Wide
import HandS.Text
import HandS.Flow
import HandS.Dict
import HandS.Deep
import HandS.Conv
import HandS.WordsDict
import HandS.More
import HandS.SetKeys
import HandS.IsInst
import HandS.CallSlots
import HandS.Style
import HandS.ExcInit
import HandS.TryOnly
import HandS.WordsExc
import HandS.MakeKw
import HandS.RaiseFrom
import HandS.Strs
import HandS.ExcField
import HandS.ExcIs
import KE.KExcIs
import HandS.Sort
import HandS.TupMul
import HandS.Replace
import HandS.Codes
import PyProof.Rows.StrJoinRep
import HandS.OwnEq
import HandS.TupSets
import KE.KSortTupAny
import HandS.SortRule
import HandS.SortInts
import KE.GoesEnum
import KE.GoesZip
import KE.GoesMore
import KE.KRevSl
import KE.KUnpackStar
import HandS.Small
import HandS.DictComp
import KE.KDictZip
import HandS.SetBool
import HandS.Defaults
import PyProof.Rows.SortShellAny
import HandS.FStr
import KE.DataEq
import KE.KDictDisplayH
import PyProof.DictMoreH
import HandS.DictTup
import KE.KDictSum
import HandS.TupLe
import KE.KDictItemsList
import KE.LtSeq
import HandS.Lambda
import HandS.EndTab
import HandS.Nested
import PySem.Challenge.RW_codeasks_k38_programs_edited
set_option Elab.async false
set_option linter.all false
set_option maxRecDepth 100000
namespace PLz
open PySem PySem.Spec PyProof.Rows L2
def NewT (H:Hp) (p:Addr) (xs:List V) (Q:Hp→Prop):Prop:=∀ o:Obj,o.dict = none→Q (upd H p (.frz o (.tup xs)))
section
variable {X:Cx} {es:List Expr} {pos:Pos}
def tTupZ (t:TA):TE:=fun σ H Q => t σ H fun xs H1 => xs.length ≤ sizeLine∧∀ p,H1 p = none→NewT H1 p xs (Q (.ref p))
theorem pe_tupZ {x1} {t:TA} (h:PA X es t):PE X (.Tuple es x1 pos) (tTupZ t):=by
 refine ⟨fun pins s σ H Q I hq => ?_⟩
 refine wpAny_Tuple_spliced (thn (h.run pos pins s σ H _ I hq) fun us s1 ⟨xs,H1,I1,r,z,q⟩ => ⟨by rw [← r.length]; exact z,?_⟩)
 have hf:H1 s1.heap.objs.size = none:=I1.hok.fresh (Nat.le_refl _)
 refine ⟨.ref s1.heap.objs.size,upd H1 s1.heap.objs.size (.frz { cls:=.type "tuple",data:=.seq us.toArray } (.tup xs)),I1.laid (t':=s1.toks) (fun b u e => Heap.get?_push_of_some _ e) (Nat.le_refl _) ?_,rfl,q _ hf _ rfl⟩
 exact ⟨Heap.get?_push_size _ rfl,z,us,r,⟨_,Heap.get?_push_size _ rfl,rfl,_,rfl⟩⟩
def rSlTZ (K:PySem.W.Frag):V→Option Int→Option Int→Hp→VK→Prop:=fun x lo hi H Q => ∃ a xs,x = .ref a∧SqT K H a xs ∧
 (HT.sIx xs.length 0 lo = 0∧HT.sIx xs.length xs.length hi = xs.length→Q (.ref a) H) ∧
 (¬ (HT.sIx xs.length 0 lo = 0∧HT.sIx xs.length xs.length hi = xs.length)→∀ p,H p = none→NewT H p (cutV xs lo hi) (Q (.ref p)))
theorem sl_tupZ:SlR X (rSlTZ X.K):=by
 intro pins s σ H x v vl vu lo hi sl Q I rx hs pl pu h
 obtain ⟨a,xs,rfl,hx,q1,q2⟩:=h
 cases rx
 obtain ⟨its,r,ht,hz⟩:=I.tuple hx
 have hlen:its.toArray.size = xs.length:=by rw [List.size_toArray]; exact r.length.symm
 refine ⟨"tuple",_,PyProof.Rows.slot_tuple_getitem.lookup,ht.typeIs,?_⟩
 by_cases hw:HT.sIx xs.length 0 lo = 0∧HT.sIx xs.length xs.length hi = xs.length
 ·exact getItem_tuple_whole ht hs pl pu (by rw [hlen]; exact hw) ⟨.ref a,H,I,rfl,q1 hw⟩
 refine HT.getItem_tuple_cut ht hs pl pu (by rw [hlen]; exact hw) ?_ (by rw [hlen]; exact hz)
 rw [hlen]
 refine ⟨.ref s.heap.objs.size,_,I.laid (t':=s.toks) (o:=.frz { cls:=.type "tuple",data:=.seq ((its.drop (HT.sIx xs.length 0 lo)).take (HT.sIx xs.length xs.length hi - HT.sIx xs.length 0 lo)).toArray } (.tup (cutV xs lo hi))) (fun b ob q => Heap.get?_push_of_some _ q) (Nat.le_refl _) ?_,rfl,q2 hw _ (I.hok.fresh (Nat.le_refl _)) _ rfl⟩
 exact ⟨Heap.get?_push_size _ rfl,Nat.le_trans (cutV_length xs lo hi) hz,_,(r.drop (HT.sIx xs.length 0 lo)).take (HT.sIx xs.length xs.length hi - HT.sIx xs.length 0 lo),IsTup.new _ _⟩
def rCatZ (K:PySem.W.Frag):R2:=fun x y H Q => ∃ a b xs ys,x = .ref a∧y = .ref b∧SqT K H a xs∧SqT K H b ys∧xs.length + ys.length ≤ sizeLine ∧
 (xs = []→Q (.ref b) H)∧(xs ≠ []→ys = []→Q (.ref a) H)∧(xs ≠ []→ys ≠ []→∀ p,H p = none→NewT H p (xs ++ ys) (Q (.ref p)))
theorem op_catZ:OpR X (binaryOp .Add) (rCatZ X.K):=by
 intro pins s σ H x y v u Q I rx ry h
 obtain ⟨a,b,xs,ys,rfl,rfl,ha,hb,hz,q0,q1,q2⟩:=h
 cases rx
 cases ry
 obtain ⟨its,r1,p1,_⟩:=I.tuple ha
 obtain ⟨its2,r2,p2,_⟩:=I.tuple hb
 by_cases hx:xs = []
 ·subst hx
  cases r1
  exact cat_tup0 p1 p2 ⟨.ref b,H,I,rfl,q0 rfl⟩
 refine HT.cat_tup p1 p2 (fun z => hx (r1.nil_iff.mp z)) (fun z => ⟨.ref a,H,I,rfl,q1 hx (r2.nil_iff.mp z)⟩) (fun z => ?_) (by rw [← r1.length,← r2.length]; exact hz)
 refine ⟨.ref s.heap.objs.size,_,I.laid (t':=s.toks) (o:=.frz { cls:=.type "tuple",data:=.seq (its ++ its2).toArray } (.tup (xs ++ ys))) (fun b ob q => Heap.get?_push_of_some _ q) (Nat.le_refl _) ?_,rfl,q2 hx (fun w => z (r2.nil_iff.mpr w)) _ (I.hok.fresh (Nat.le_refl _)) _ rfl⟩
 exact ⟨Heap.get?_push_size _ rfl,by rw [List.length_append]; exact hz,_,r1.append r2,IsTup.new _ _⟩
theorem call_tupleZ:CallR X (.type "tuple") (fun xs H Q => ∃ p ys,xs = [.ref p]∧((SqL X.K H p ys∧∀ l,H l = none→NewT H l ys (Q (.ref l))) ∨ (SqT X.K H p ys∧Q (.ref p) H))):=by
 intro pins s σ H xs us Q I r h
 obtain ⟨p,ys,rfl,h⟩:=h
 obtain ⟨u,rfl,rx⟩:=r.one
 cases rx
 rcases h with ⟨hq,q⟩ | ⟨hq,q⟩
 ·obtain ⟨its,r',pl,hz⟩:=I.list hq
  have hlen:=r'.length
  refine call_tuple_list pl.isList (fun h' kp => ?_) (by simp only [List.size_toArray] <;> omega)
  have I1:Inv X pins σ H { s with heap:=h' }:=I.kept (t':=s.toks) kp
  have I2:Inv X pins σ (upd H h'.objs.size (.frz { cls:=.type "tuple",data:=.seq its.toArray } (.tup ys))) { s with heap:=h'.push { cls:=.type "tuple",data:=.seq its.toArray } } :=
   I1.laid (t':=s.toks) (fun b o e => Heap.get?_push_of_some _ e) (Nat.le_refl _) (show ObjOk X.prog X.w _ _ _ (.frz _ (.tup ys)) from ⟨Heap.get?_push_size _ rfl,hz,its,r',IsTup.new _ _⟩)
  exact ⟨.ref h'.objs.size,_,I2,rfl,q _ (I1.hok.fresh (Nat.le_refl _)) _ rfl⟩
 ·obtain ⟨its,r',pl,hz⟩:=I.tuple hq
  exact call_tuple_same pl ⟨.ref p,H,I,rfl,q⟩
end
end PLz
namespace PL
open PySem PySem.Spec PyProof.Rows L2

inductive PV where
 | non | bl (b:Bool) | int (i:Int) | str (x:Str) | tup (xs:List PV) | fls (xs:List PV) | loc (l:Nat) | fn (a:Nat) (u:V) (m:PV)
instance:Inhabited PV:=⟨.non⟩
inductive Ob where
 | lst (xs:List PV)
 | dct (kvs:List (Key × PV))
 | ins (C:Str) (fs:List (Str × PV))
 | dtp (kvs:List (List Leaf × PV))
 | tab (nm q:Str)
 | exc (C:Str) (p:PV)
 | ndt (kvs:List (NestedKey × PV))
instance:Inhabited Ob:=⟨.lst []⟩
abbrev Sto:=List Ob
abbrev En:=List (Option PV)

inductive Out (α : Type) where
 | ok (a : α) (S:Sto) | er (c:Str) (p:PV) (S:Sto) | bad
abbrev EM (α : Type):=En→Sto→Out α
inductive OS where
 | nx (τ : En) (S:Sto) | rt (v:PV) (S:Sto) | er (c:Str) (p:PV) (τ : En) (S:Sto) | bad
abbrev SM:=En→Sto→OS

def bnd {α β : Type} (o:Out α) (f : α→Sto→Out β):Out β :=
 match o with
 | .ok a S => f a S
 | .er c p S => .er c p S
 | .bad => .bad
@[simp] theorem bnd_ok {α β : Type} (a : α) (S:Sto) (f : α→Sto→Out β):bnd (.ok a S) f = f a S:=rfl
@[simp] theorem bnd_er {α β : Type} (c:Str) (p:PV) (S:Sto) (f : α→Sto→Out β):bnd (.er c p S) f = .er c p S:=rfl
@[simp] theorem bnd_bad {α β : Type} (f : α→Sto→Out β):bnd .bad f = .bad:=rfl

def wp {α : Type} (o:Out α) (P : α→Sto→Prop) (R:Str→PV→Sto→Prop):Prop :=
 match o with
 | .ok a S => P a S
 | .er c p S => R c p S
 | .bad => False
@[simp] theorem wp_ok {α : Type} (a : α) (S:Sto) (P : α→Sto→Prop) (R:Str→PV→Sto→Prop):wp (.ok a S) P R = P a S:=rfl
@[simp] theorem wp_er {α : Type} (c:Str) (p:PV) (S:Sto) (P : α→Sto→Prop) (R:Str→PV→Sto→Prop):wp (.er c p S:Out α) P R = R c p S:=rfl
@[simp] theorem wp_bad {α : Type} (P : α→Sto→Prop) (R:Str→PV→Sto→Prop):wp (.bad:Out α) P R = False:=rfl
theorem wp_bnd {α β : Type} (o:Out α) (f : α→Sto→Out β) (P : β→Sto→Prop) (R:Str→PV→Sto→Prop):wp (bnd o f) P R = wp o (fun a S => wp (f a S) P R) R:=by
 cases o <;> rfl
theorem wp_mono {α : Type} {o:Out α} {P P' : α→Sto→Prop} {R R':Str→PV→Sto→Prop} (h:wp o P R) (hP:∀ a S,P a S→P' a S) (hR:∀ c p S,R c p S→R' c p S):wp o P' R':=by
 cases o with
 | ok a S => exact hP a S h
 | er c p S => exact hR c p S h
 | bad => exact h
def wpS (o:OS) (N:En→Sto→Prop) (T:PV→Sto→Prop) (R:Str→PV→En→Sto→Prop):Prop :=
 match o with
 | .nx τ S => N τ S
 | .rt v S => T v S
 | .er c p τ S => R c p τ S
 | .bad => False
@[simp] theorem wpS_nx (τ : En) (S:Sto) (N:En→Sto→Prop) (T:PV→Sto→Prop) (R:Str→PV→En→Sto→Prop):wpS (.nx τ S) N T R = N τ S:=rfl
@[simp] theorem wpS_rt (v:PV) (S:Sto) (N:En→Sto→Prop) (T:PV→Sto→Prop) (R:Str→PV→En→Sto→Prop):wpS (.rt v S) N T R = T v S:=rfl
@[simp] theorem wpS_er (c:Str) (p:PV) (τ : En) (S:Sto) (N:En→Sto→Prop) (T:PV→Sto→Prop) (R:Str→PV→En→Sto→Prop):wpS (.er c p τ S) N T R = R c p τ S:=rfl
@[simp] theorem wpS_bad (N:En→Sto→Prop) (T:PV→Sto→Prop) (R:Str→PV→En→Sto→Prop):wpS .bad N T R = False:=rfl
theorem wpS_mono {o:OS} {N N':En→Sto→Prop} {T T':PV→Sto→Prop} {R R':Str→PV→En→Sto→Prop} (h:wpS o N T R) (hN:∀ τ S,N τ S→N' τ S) (hT:∀ v S,T v S→T' v S) (hR:∀ c p τ S,R c p τ S→R' c p τ S):wpS o N' T' R':=by
 cases o with
 | nx τ S => exact hN τ S h
 | rt v S => exact hT v S h
 | er c p τ S => exact hR c p τ S h
 | bad => exact h

def FzL (K:PySem.W.Frag) (H:Hp) (a:Addr) (xs:List V):Prop :=
 (∃ o,H a = some (.frz o (.lst xs))) ∨
  ∃ (o:Obj) (its:Array Value) (n:Nat),K.lookup a = some o∧o.cls = .type "list"∧o.dict = none∧o.data = .seq its n∧its.size ≤ sizeLine∧Vals xs its.toList
def FzT (K:PySem.W.Frag) (H:Hp) (a:Addr) (xs:List V):Prop :=
 (∃ o:Obj,H a = some (.frz o (.tup xs))∧o.dict = none) ∨
  ∃ (o:Obj) (its:Array Value) (n:Nat),K.lookup a = some o∧o.cls = .type "tuple"∧o.dict = none∧o.data = .seq its n∧its.size ≤ sizeLine∧Vals xs its.toList
theorem FzL.seq {K:PySem.W.Frag} {H:Hp} {a:Addr} {xs:List V} (h:FzL K H a xs):SqL K H a xs:=by
 rcases h with h | h
 ·exact .inl (.inr h)
 ·exact .inr h
theorem FzT.seq {K:PySem.W.Frag} {H:Hp} {a:Addr} {xs:List V} (h:FzT K H a xs):SqT K H a xs:=by
 rcases h with ⟨o,h,_⟩ | ⟨o,its,n,h1,h2,_,h3⟩
 ·exact .inl (.inr ⟨o,h⟩)
 ·exact .inr ⟨o,its,n,h1,h2,h3⟩

mutual
def Rp (K:PySem.W.Frag) (ι : List Addr) (H:Hp):PV→V→Prop
 | .non,v => v = .non
 | .bl b,v => v = .bl b
 | .int i,v => v = .int i
 | .str x,v => v = .str x
 | .tup xs,v => ∃ a vs,v = .ref a∧FzT K H a vs∧RpL K ι H xs vs
 | .fls xs,v => ∃ a vs,v = .ref a∧FzL K H a vs∧RpL K ι H xs vs
 | .loc l,v => ∃ a,v = .ref a∧ι[l]? = some a
 | .fn a u m,v => v = .ref a∧Rp K ι H m u
def RpL (K:PySem.W.Frag) (ι : List Addr) (H:Hp):List PV→List V→Prop
 | [],vs => vs = []
 | x :: xs,vs => ∃ v r,vs = v :: r∧Rp K ι H x v∧RpL K ι H xs r
end

structure Ext (ι : List Addr) (H:Hp) (ι':List Addr) (H':Hp):Prop where
 pre:∀ (l:Nat) (a:Addr),ι[l]? = some a→ι'[l]? = some a
 fr:∀ a o,H a = some o→a ∉ ι→H' a = some o
 new:∀ a,a ∈ ι'→a ∈ ι ∨ H a = none
 tups:∀ a xs,H a = some (.tup xs)→H' a = some (.tup xs)
 frzs:∀ a o u,H a = some (.frz o u)→H' a = some (.frz o u)
theorem Ext.refl {ι : List Addr} {H:Hp}:Ext ι H ι H:=⟨fun _ _ h => h,fun _ _ h _ => h,fun _ h => .inl h,fun _ _ h => h,fun _ _ _ h => h⟩
theorem Ext.trans {ι ι1 ι2:List Addr} {H H1 H2:Hp} (a:Ext ι H ι1 H1) (b:Ext ι1 H1 ι2 H2):Ext ι H ι2 H2 where
 pre:=fun l x h => b.pre l x (a.pre l x h)
 fr:=fun x o h n => b.fr x o (a.fr x o h n) fun m => by
  rcases a.new x m with q | q
  ·exact n q
  ·rw [h] at q; cases q
 new:=fun x m => by
  rcases b.new x m with q | q
  ·exact a.new x q
  ·cases e:H x with
   | none => exact .inr rfl
   | some o =>
    by_cases hx:x ∈ ι
    ·exact .inl hx
    ·rw [a.fr x o e hx] at q; cases q
 tups:=fun x xs h => b.tups x xs (a.tups x xs h)
 frzs:=fun x o u h => b.frzs x o u (a.frzs x o u h)

section
variable {K:PySem.W.Frag} {ι ι':List Addr} {H H':Hp}
theorem FzT.mono {a:Addr} {xs:List V} (h:FzT K H a xs) (e:Ext ι H ι' H'):FzT K H' a xs:=by
 rcases h with ⟨o,h,hd⟩ | h
 ·exact .inl ⟨o,e.frzs a o _ h,hd⟩
 ·exact .inr h
theorem FzL.mono {a:Addr} {xs:List V} (h:FzL K H a xs) (e:Ext ι H ι' H'):FzL K H' a xs:=by
 rcases h with ⟨o,h⟩ | h
 ·exact .inl ⟨o,e.frzs a o _ h⟩
 ·exact .inr h
mutual
theorem Rp.mono (e:Ext ι H ι' H'):∀ (x:PV) (v:V),Rp K ι H x v→Rp K ι' H' x v
 | .non,_,h => h
 | .bl _,_,h => h
 | .int _,_,h => h
 | .str _,_,h => h
 | .tup xs,v,h => by
  obtain ⟨a,vs,e1,e2,e3⟩:=h
  exact ⟨a,vs,e1,e2.mono e,RpL.mono e xs vs e3⟩
 | .fls xs,v,h => by
  obtain ⟨a,vs,e1,e2,e3⟩:=h
  exact ⟨a,vs,e1,e2.mono e,RpL.mono e xs vs e3⟩
 | .loc l,v,h => by
  obtain ⟨a,e1,e2⟩:=h
  exact ⟨a,e1,e.pre l a e2⟩
 | .fn a u m,_,h => ⟨h.1,Rp.mono e m u h.2⟩
theorem RpL.mono (e:Ext ι H ι' H'):∀ (xs:List PV) (vs:List V),RpL K ι H xs vs→RpL K ι' H' xs vs
 | [],_,h => h
 | x :: xs,vs,h => by
  obtain ⟨v,r,e1,e2,e3⟩:=h
  exact ⟨v,r,e1,Rp.mono e x v e2,RpL.mono e xs r e3⟩
end
theorem Rp.up {x:PV} {v:V} (h:Rp K ι H x v) (e:Ext ι H ι' H'):Rp K ι' H' x v:=Rp.mono e x v h
theorem RpL.up {xs:List PV} {vs:List V} (h:RpL K ι H xs vs) (e:Ext ι H ι' H'):RpL K ι' H' xs vs:=RpL.mono e xs vs h

theorem RpL.length:∀ {xs:List PV} {vs:List V},RpL K ι H xs vs→xs.length = vs.length
 | [],_,h => by have h:_ = []:=h; subst h; rfl
 | x :: xs,vs,h => by
  obtain ⟨v,r,rfl,_,e3⟩:=h
  simp [RpL.length e3]
theorem RpL.get:∀ {xs:List PV} {vs:List V} {i:Nat} {x:PV},RpL K ι H xs vs→xs[i]? = some x→∃ v,vs[i]? = some v∧Rp K ι H x v
 | [],_,_,_,_,e => by simp at e
 | y :: xs,vs,0,x,h,e => by
  obtain ⟨v,r,rfl,e2,e3⟩:=h
  simp at e; subst e
  exact ⟨v,rfl,e2⟩
 | y :: xs,vs,i + 1,x,h,e => by
  obtain ⟨v,r,rfl,e2,e3⟩:=h
  obtain ⟨v',h1,h2⟩:=RpL.get (i:=i) e3 (by simpa using e)
  exact ⟨v',by simpa using h1,h2⟩
theorem RpL.app:∀ {xs ys:List PV} {vs ws:List V},RpL K ι H xs vs→RpL K ι H ys ws→RpL K ι H (xs ++ ys) (vs ++ ws)
 | [],_,_,_,h,h' => by have h:_ = []:=h; subst h; exact h'
 | x :: xs,_,_,_,h,h' => by
  obtain ⟨v,r,rfl,e2,e3⟩:=h
  exact ⟨v,r ++ _,rfl,e2,RpL.app e3 h'⟩
theorem RpL.take:∀ {xs:List PV} {vs:List V} (n:Nat),RpL K ι H xs vs→RpL K ι H (xs.take n) (vs.take n)
 | [],_,n,h => by have h:_ = []:=h; subst h; simp [RpL]
 | x :: xs,_,0,h => by simp [RpL]
 | x :: xs,_,n + 1,h => by
  obtain ⟨v,r,rfl,e2,e3⟩:=h
  exact ⟨v,r.take n,rfl,e2,RpL.take n e3⟩
theorem RpL.drop:∀ {xs:List PV} {vs:List V} (n:Nat),RpL K ι H xs vs→RpL K ι H (xs.drop n) (vs.drop n)
 | [],_,n,h => by have h:_ = []:=h; subst h; simp [RpL]
 | x :: xs,_,0,h => h
 | x :: xs,_,n + 1,h => by
  obtain ⟨v,r,rfl,e2,e3⟩:=h
  exact RpL.drop n e3
theorem RpL.rev:∀ {xs:List PV} {vs:List V},RpL K ι H xs vs→RpL K ι H xs.reverse vs.reverse
 | [],_,h => by have h:_ = []:=h; subst h; rfl
 | x :: xs,_,h => by
  obtain ⟨v,r,rfl,e2,e3⟩:=h
  rw [List.reverse_cons,List.reverse_cons]
  exact (RpL.rev e3).app ⟨v,[],rfl,e2,rfl⟩
theorem RpL.set:∀ {xs:List PV} {vs:List V} {x:PV} {v:V} (i:Nat),RpL K ι H xs vs→Rp K ι H x v→RpL K ι H (xs.set i x) (vs.set i v)
 | [],_,_,_,i,h,_ => by have h:_ = []:=h; subst h; rfl
 | y :: xs,_,x,v,0,h,hx => by
  obtain ⟨w,r,rfl,e2,e3⟩:=h
  exact ⟨v,r,rfl,hx,e3⟩
 | y :: xs,_,x,v,i + 1,h,hx => by
  obtain ⟨w,r,rfl,e2,e3⟩:=h
  exact ⟨w,r.set i v,rfl,e2,RpL.set i e3 hx⟩
theorem RpL.one {x:PV} {v:V} (h:Rp K ι H x v):RpL K ι H [x] [v]:=⟨v,[],rfl,h,rfl⟩
theorem RpL.ints:∀ ns:List Int,RpL K ι H (ns.map PV.int) (ns.map V.int)
 | [] => rfl
 | n :: ns => ⟨.int n,ns.map V.int,rfl,rfl,RpL.ints ns⟩
end

def RpF (K:PySem.W.Frag) (ι : List Addr) (H:Hp) {κ : Type}:List (κ × PV)→List (κ × V)→Prop
 | [],ws => ws = []
 | (k,x) :: r,ws => ∃ v w,ws = (k,v) :: w∧Rp K ι H x v∧RpF K ι H r w
section
variable {K:PySem.W.Frag} {ι ι':List Addr} {H H':Hp} {κ : Type}
theorem RpF.up:∀ {fs:List (κ × PV)} {ws:List (κ × V)},RpF K ι H fs ws→Ext ι H ι' H'→RpF K ι' H' fs ws
 | [],_,h,_ => h
 | (k,x) :: r,_,h,e => by
  obtain ⟨v,w,rfl,h1,h2⟩:=h
  exact ⟨v,w,rfl,h1.up e,RpF.up h2 e⟩
theorem RpF.length:∀ {fs:List (κ × PV)} {ws:List (κ × V)},RpF K ι H fs ws→fs.length = ws.length
 | [],_,h => by have h:_ = []:=h; subst h; rfl
 | (k,x) :: r,_,h => by
  obtain ⟨v,w,rfl,h1,h2⟩:=h
  simp [RpF.length h2]
theorem RpF.lookup [BEq κ]:∀ {fs:List (κ × PV)} {ws:List (κ × V)} {f : κ} {x:PV},RpF K ι H fs ws→fs.lookup f = some x→∃ v,ws.lookup f = some v∧Rp K ι H x v
 | [],_,_,_,_,e => by simp at e
 | (k,x) :: r,_,f,y,h,e => by
  obtain ⟨v,w,rfl,h1,h2⟩:=h
  rw [List.lookup_cons] at e ⊢
  split at e
  ·rename_i q
   cases e
   exact ⟨v,by simp_all,h1⟩
  ·rename_i q
   obtain ⟨v',h3,h4⟩:=RpF.lookup (f:=f) h2 e
   exact ⟨v',by simp_all,h4⟩
theorem RpF.lookup_none [BEq κ]:∀ {fs:List (κ × PV)} {ws:List (κ × V)} {f : κ},RpF K ι H fs ws→fs.lookup f = none→ws.lookup f = none
 | [],_,_,h,_ => by have h:_ = []:=h; subst h; rfl
 | (k,x) :: r,_,f,h,e => by
  obtain ⟨v,w,rfl,h1,h2⟩:=h
  rw [List.lookup_cons] at e ⊢
  split at e
  ·cases e
  ·exact RpF.lookup_none h2 e
end

def lV:Leaf→V
 | .none => .non
 | .num i => .int i
 | .text x => .str x
def DE (ΩP:Program) (Ωw:World) (a:Addr) (xs:List (List Leaf × Addr × V)):HO:=.ext fun h => (a == sysModules) = false∧xs.length ≤ sizeLine∧∃ vs:List (List Leaf × Addr × Value),Paired (fun (p:List Leaf × Addr × V) (q:List Leaf × Addr × Value) => p.1 = q.1∧p.2.1 = q.2.1∧RelV p.2.2 q.2.2) xs vs ∧
 ∃ o es,h.get? a = some o∧o.ExactDict∧o.data = .dict es xs.length∧es.toList = vs.map (entryOfKey (tupleKind (leafKind ΩP Ωw)))∧(vs.map (·.1)).Nodup
def NkV (K:PySem.W.Frag) (H:Hp):NestedKey→V→Prop
 | .none,v => v = .non
 | .num i,v => v = .int i
 | .text x,v => v = .str x
 | .tup ks,v => ∃ a vs,v = .ref a∧FzT K H a vs∧NkVs K H ks vs
where NkVs (K:PySem.W.Frag) (H:Hp):List NestedKey→List V→Prop
 | [],vs => vs = []
 | k :: ks,vs => ∃ v w,vs = v :: w∧NkV K H k v∧NkVs K H ks w
def DN (ΩP:Program) (Ωw:World) (a:Addr) (xs:List (NestedKey × Addr × V)):HO:=.ext fun h => (a == sysModules) = false∧xs.length ≤ sizeLine∧∃ vs:List (NestedKey × Addr × Value),Paired (fun (p:NestedKey × Addr × V) (q:NestedKey × Addr × Value) => p.1 = q.1∧p.2.1 = q.2.1∧RelV p.2.2 q.2.2) xs vs ∧
 ∃ o es,h.get? a = some o∧o.ExactDict∧o.data = .dict es xs.length∧es.toList = vs.map (entryOfKey (nestedKind ΩP Ωw))∧(vs.map (·.1)).Nodup
def XA (a:Addr) (oe:Obj):HO:=.ext fun h => h.get? a = some oe
def CodeZ (oc:Obj) (q:Str):Prop:=∃ (vs:Array Value) (t:Tok),oc.data = .fields vs∧vs[1]? = some (.str q t)
def TabZ (H:Hp) (a:Addr) (q:Str):Prop:=∃ ps:Array Value,H a = some (.tbl ps)∧TriplesOk ps.toList∧∀ (pos:Pos) (cv:Value),codeAmong pos ps.toList = some cv→∃ c oc,cv = .ref c∧H c = some (.frz oc (.ext fun _ => True))∧CodeZ oc q
theorem TabZ.to {H H':Hp} {a:Addr} {q:Str} (h:TabZ H a q) (k:H' a = H a) (e:∀ a o u,H a = some (.frz o u)→H' a = some (.frz o u)):TabZ H' a q:=by
 obtain ⟨ps,h1,h2,h3⟩:=h
 refine ⟨ps,k.trans h1,h2,fun pos cv hc => ?_⟩
 obtain ⟨c,oc,e1,e2,e3⟩:=h3 pos cv hc
 exact ⟨c,oc,e1,e c _ _ e2,e3⟩
def CodeAt (K:PySem.W.Frag) (f:Addr) (cv:Value):Prop:=∃ (oc:Value) (od:Option Addr) (nm qual:Str) (ps:Arguments) (b:List Stmt) (sc:Scope) (dV kV doc pm ct:Value) (an:Option Addr) (osl:Array (Option Value)),K.lookup f = some ⟨oc,od,.func (PySem.W.fnOf nm qual ps b sc dV kV doc pm an cv ct),osl⟩
def TabK (K:PySem.W.Frag) (mg:Str→Option Value) (nm:Str) (a:Addr):Prop:=∃ f c,mg nm = some (.ref f)∧CodeAt K f (.ref c)∧PySem.W.codeHdIn K c a = true
theorem FzT.to {K:PySem.W.Frag} {H H':Hp} {a:Addr} {xs:List V} (h:FzT K H a xs) (e:∀ a o u,H a = some (.frz o u)→H' a = some (.frz o u)):FzT K H' a xs:=h.imp (fun ⟨o,h,hd⟩ => ⟨o,e a o _ h,hd⟩) id
mutual
theorem NkV.mono {K:PySem.W.Frag} {H H':Hp} (e:∀ a o u,H a = some (.frz o u)→H' a = some (.frz o u)):∀ {k:NestedKey} {v:V},NkV K H k v→NkV K H' k v
 | .none,_,h => h
 | .num _,_,h => h
 | .text _,_,h => h
 | .tup ks,_,⟨a,vs,h1,h2,h3⟩ => ⟨a,vs,h1,h2.to e,NkVs.mono e h3⟩
theorem NkVs.mono {K:PySem.W.Frag} {H H':Hp} (e:∀ a o u,H a = some (.frz o u)→H' a = some (.frz o u)):∀ {ks:List NestedKey} {vs:List V},NkV.NkVs K H ks vs→NkV.NkVs K H' ks vs
 | [],_,h => h
 | _ :: _,_,⟨v,w,h1,h2,h3⟩ => ⟨v,w,h1,NkV.mono e h2,NkVs.mono e h3⟩
end
def OR (ΩP:Program) (Ωw:World) (K:PySem.W.Frag) (mg:Str→Option Value) (ι : List Addr) (H:Hp) (a:Addr):Ob→Prop
 | .lst xs => ∃ vs,H a = some (.lst vs)∧RpL K ι H xs vs
 | .dct kvs => ∃ ws,H a = some (.dK ws)∧RpF K ι H kvs ws
 | .ins C fs => ∃ Ca dx ws,mg C = some (.ref Ca)∧H a = some (.ins Ca dx ws)∧RpF K ι H fs ws
 | .dtp kvs => ∃ xs,H a = some (DE ΩP Ωw a xs)∧(∀ x ∈ xs,FzT K H x.2.1 (x.1.map lV))∧RpF K ι H kvs (xs.map fun x => (x.1,x.2.2))
 | .tab nm q => TabZ H a q∧TabK K mg nm a
 | .exc C p => ∃ oe Ca dd x,H a = some (XA a oe)∧mg C = some (.ref Ca)∧oe.cls = .ref Ca∧oe.dict = some dd∧(∃ vs,oe.data = .fields vs)∧dd ∉ ι∧H dd = some (.xd [("what",x)])∧Rp K ι H p x
 | .ndt kvs => ∃ xs,H a = some (DN ΩP Ωw a xs)∧(∀ x ∈ xs,x.1.depth ≤ 8∧NkV K H x.1 (.ref x.2.1))∧RpF K ι H kvs (xs.map fun x => (x.1,x.2.2))
structure RSt (ΩP:Program) (Ωw:World) (K:PySem.W.Frag) (mg:Str→Option Value) (ι : List Addr) (H:Hp) (S:Sto):Prop where
 len : ι.length = S.length
 nd : ι.Nodup
 obj:∀ (l:Nat) (a:Addr) (o:Ob),ι[l]? = some a→S[l]? = some o→OR ΩP Ωw K mg ι H a o
section
variable {K:PySem.W.Frag} {mg:Str→Option Value} {ι ι':List Addr} {H H':Hp} {S S':Sto} {a:Addr} {o:Ob} {l:Nat}
theorem OR.mut (h:OR ΩP Ωw K mg ι H a o):True∧H a ≠ none∧(∀ xs,H a ≠ some (.tup xs))∧∀ o u,H a ≠ some (.frz o u):=by
 cases o with
 | lst xs => obtain ⟨vs,e,_⟩:=h; rw [e]; exact ⟨trivial,by simp,by simp,by simp⟩
 | dct kvs => obtain ⟨vs,e,_⟩:=h; rw [e]; exact ⟨trivial,by simp,by simp,by simp⟩
 | ins C fs => obtain ⟨Ca,dx,ws,_,e,_⟩:=h; rw [e]; exact ⟨trivial,by simp,by simp,by simp⟩
 | dtp kvs => obtain ⟨vs,e,_⟩:=h; rw [e]; exact ⟨trivial,by simp [DE],by simp [DE],by simp [DE]⟩
 | tab nm q => obtain ⟨⟨vs,e,_⟩,_⟩:=h; rw [e]; exact ⟨trivial,by simp,by simp,by simp⟩
 | exc C p => obtain ⟨oe,_,_,_,e,_⟩:=h; rw [e]; exact ⟨trivial,by simp [XA],by simp [XA],by simp [XA]⟩
 | ndt kvs => obtain ⟨vs,e,_⟩:=h; rw [e]; exact ⟨trivial,by simp [DN],by simp [DN],by simp [DN]⟩
theorem RSt.get (r:RSt ΩP Ωw K mg ι H S) (h:S[l]? = some o):∃ a,ι[l]? = some a∧OR ΩP Ωw K mg ι H a o:=by
 have hl:l < S.length:=(List.getElem?_eq_some_iff.mp h).1
 have hι : l < ι.length:=by rw [r.len]; exact hl
 exact ⟨ι[l],List.getElem?_eq_getElem hι,r.obj l _ o (List.getElem?_eq_getElem hι) h⟩
theorem RSt.mem (r:RSt ΩP Ωw K mg ι H S) (h:a ∈ ι):∃ (l:Nat) (o:Ob),ι[l]? = some a∧S[l]? = some o∧OR ΩP Ωw K mg ι H a o:=by
 obtain ⟨l,hl,e⟩:=List.mem_iff_getElem.mp h
 have hS:l < S.length:=by rw [← r.len]; exact hl
 exact ⟨l,S[l],by rw [List.getElem?_eq_getElem hl,e],List.getElem?_eq_getElem hS,r.obj l a _ (by rw [List.getElem?_eq_getElem hl,e]) (List.getElem?_eq_getElem hS)⟩
theorem OR.up_other (h:OR ΩP Ωw K mg ι H a o) (e:Ext ι H ι' H') (k:H' a = H a):OR ΩP Ωw K mg ι' H' a o:=by
 cases o with
 | lst xs => obtain ⟨vs,q,r⟩:=h; exact ⟨vs,k.trans q,r.up e⟩
 | dct xs => obtain ⟨vs,q,r⟩:=h; exact ⟨vs,k.trans q,r.up e⟩
 | ins C fs => obtain ⟨Ca,dx,ws,m,q,r⟩:=h; exact ⟨Ca,dx,ws,m,k.trans q,r.up e⟩
 | dtp xs => obtain ⟨vs,q,z,r⟩:=h; exact ⟨vs,k.trans q,fun x hx => (z x hx).mono e,r.up e⟩
 | tab nm q => exact ⟨TabZ.to h.1 k e.frzs,h.2⟩
 | exc C p => obtain ⟨oe,Ca,dd,x,q,m,c1,c2,c3,nd,hd,r⟩:=h; exact ⟨oe,Ca,dd,x,k.trans q,m,c1,c2,c3,(fun z => (e.new dd z).elim nd fun z => by rw [hd] at z; cases z),e.fr _ _ hd nd,r.up e⟩
 | ndt xs => obtain ⟨vs,q,z,r⟩:=h; exact ⟨vs,k.trans q,fun x hx => ⟨(z x hx).1,(z x hx).2.mono e.frzs⟩,r.up e⟩
theorem RSt.write (r:RSt ΩP Ωw K mg ι H S) {ho:HO} (hl : ι[l]? = some a) (ho':OR ΩP Ωw K mg ι (upd H a ho) a o):Ext ι H ι (upd H a ho)∧RSt ΩP Ωw K mg ι (upd H a ho) (S.set l o):=by
 have hm:a ∈ ι:=List.mem_of_getElem? hl
 obtain ⟨l0,o0,h1,h2,h3⟩:=r.mem hm
 obtain ⟨_,_,nt,nf⟩:=h3.mut
 have ne:∀ b,b ≠ a→upd H a ho b = H b:=fun b hb => upd_ne hb
 have E:Ext ι H ι (upd H a ho):=⟨fun _ _ h => h,fun b u h n => by rw [ne b (fun z => n (z ▸ hm))]; exact h,fun _ h => .inl h,
  fun b xs h => by rw [ne b (fun z => by subst z; exact nt xs h)]; exact h,fun b o u h => by rw [ne b (fun z => by subst z; exact nf o u h)]; exact h⟩
 refine ⟨E,by rw [List.length_set]; exact r.len,r.nd,fun l' a' o' e1 e2 => ?_⟩
 by_cases hll:l' = l
 ·subst hll
  rw [hl] at e1; cases e1
  have hlt:l' < S.length:=by
   have:=(List.getElem?_eq_some_iff.mp hl).1
   rw [r.len] at this; exact this
  rw [List.getElem?_set_self hlt] at e2
  cases e2
  exact ho'
 ·rw [List.getElem?_set_ne (Ne.symm hll)] at e2
  have hne:a' ≠ a:=fun z => by
   subst z
   exact hll ((List.getElem?_inj (List.getElem?_eq_some_iff.mp e1).1 r.nd).mp (e1.trans hl.symm))
  exact (r.obj l' a' o' e1 e2).up_other E (ne a' hne)
theorem RSt.extw (r:RSt ΩP Ωw K mg ι H S) {ho:HO} (hl : ι[l]? = some a):Ext ι H ι (upd H a ho):=by
 have hm:a ∈ ι:=List.mem_of_getElem? hl
 obtain ⟨l0,o0,h1,h2,h3⟩:=r.mem hm
 obtain ⟨_,_,nt,nf⟩:=h3.mut
 have ne:∀ b,b ≠ a→upd H a ho b = H b:=fun b hb => upd_ne hb
 exact ⟨fun _ _ h => h,fun b u h n => by rw [ne b (fun z => n (z ▸ hm))]; exact h,fun _ h => .inl h,
  fun b xs h => by rw [ne b (fun z => by subst z; exact nt xs h)]; exact h,fun b o u h => by rw [ne b (fun z => by subst z; exact nf o u h)]; exact h⟩
theorem RSt.wlst (r:RSt ΩP Ωw K mg ι H S) {xs:List PV} {vs:List V} (hl : ι[l]? = some a) (h:RpL K ι H xs vs):Ext ι H ι (upd H a (.lst vs))∧RSt ΩP Ωw K mg ι (upd H a (.lst vs)) (S.set l (.lst xs)) :=
 r.write hl ⟨vs,upd_same,h.up (r.extw hl)⟩
theorem RSt.wdct (r:RSt ΩP Ωw K mg ι H S) {xs:List (Key × PV)} {vs:List (Key × V)} (hl : ι[l]? = some a) (h:RpF K ι H xs vs):Ext ι H ι (upd H a (.dK vs))∧RSt ΩP Ωw K mg ι (upd H a (.dK vs)) (S.set l (.dct xs)) :=
 r.write hl ⟨vs,upd_same,h.up (r.extw hl)⟩
theorem RSt.wins (r:RSt ΩP Ωw K mg ι H S) {C:Str} {Ca dx:Addr} {xs:List (Str × PV)} {vs:List (Str × V)} (hl : ι[l]? = some a) (hc:mg C = some (.ref Ca)) (h:RpF K ι H xs vs):Ext ι H ι (upd H a (.ins Ca dx vs))∧RSt ΩP Ωw K mg ι (upd H a (.ins Ca dx vs)) (S.set l (.ins C xs)) :=
 r.write hl ⟨Ca,dx,vs,hc,upd_same,h.up (r.extw hl)⟩
theorem RSt.alloc (r:RSt ΩP Ωw K mg ι H S) {p:Addr} (hp:H p = none) (hn:∀ ι' H',Ext ι H ι' H'→H' p = H' p→True) {ho:HO} (E:Ext ι H (ι ++ [p]) (upd H p ho)) (ho':OR ΩP Ωw K mg (ι ++ [p]) (upd H p ho) p o):RSt ΩP Ωw K mg (ι ++ [p]) (upd H p ho) (S ++ [o]):=by
 have hnot:p ∉ ι:=fun hm => by
  obtain ⟨l0,o0,h1,h2,h3⟩:=r.mem hm
  exact h3.mut.2.1 hp
 refine ⟨by simp [r.len],List.nodup_append.mpr ⟨r.nd,by simp,fun x hx y hy => by simp at hy; subst hy; exact fun z => hnot (z ▸ hx)⟩,fun l' a' o' e1 e2 => ?_⟩
 by_cases hl:l' < ι.length
 ·rw [List.getElem?_append_left hl] at e1
  rw [List.getElem?_append_left (by rw [← r.len]; exact hl)] at e2
  exact (r.obj l' a' o' e1 e2).up_other E (upd_ne fun z => hnot (z ▸ List.mem_of_getElem? e1))
 ·rw [List.getElem?_append_right (by omega)] at e1
  rw [List.getElem?_append_right (by rw [← r.len]; omega)] at e2
  have:l' - ι.length = 0:=by
   have:=(List.getElem?_eq_some_iff.mp e1).1
   simp at this; omega
  have h2:l' - S.length = 0:=by rw [← r.len]; exact this
  rw [this] at e1; rw [h2] at e2
  simp at e1 e2
  subst e1; subst e2
  exact ho'
theorem Ext.alloc {p:Addr} {ho:HO} (hp:H p = none):Ext ι H (ι ++ [p]) (upd H p ho) where
 pre:=fun l x h => by
  rw [List.getElem?_append_left (List.getElem?_eq_some_iff.mp h).1]; exact h
 fr:=fun x u h _ => by rw [upd_ne (ne_of_none h hp)]; exact h
 new:=fun x m => by
  rcases List.mem_append.mp m with q | q
  ·exact .inl q
  ·have:x = p:=by simpa using q
   subst this; exact .inr hp
 tups:=fun x u h => by rw [upd_ne (ne_of_none h hp)]; exact h
 frzs:=fun x u z h => by rw [upd_ne (ne_of_none h hp)]; exact h
theorem Ext.other {p:Addr} {ho:HO} (hp:H p = none):Ext ι H ι (upd H p ho) where
 pre:=fun l x h => h
 fr:=fun x u h _ => by rw [upd_ne (ne_of_none h hp)]; exact h
 new:=fun x m => .inl m
 tups:=fun x u h => by rw [upd_ne (ne_of_none h hp)]; exact h
 frzs:=fun x u z h => by rw [upd_ne (ne_of_none h hp)]; exact h
theorem RSt.other (r:RSt ΩP Ωw K mg ι H S) (e:Ext ι H ι H') (k:∀ a,a ∈ ι→H' a = H a):RSt ΩP Ωw K mg ι H' S :=
 ⟨r.len,r.nd,fun l a o e1 e2 => (r.obj l a o e1 e2).up_other e (k a (List.mem_of_getElem? e1))⟩
theorem RSt.tup (r:RSt ΩP Ωw K mg ι H S) {p:Addr} {ho:HO} (hp:H p = none):Ext ι H ι (upd H p ho)∧RSt ΩP Ωw K mg ι (upd H p ho) S:=by
 refine ⟨.other hp,r.other (.other hp) fun a ha => upd_ne fun z => ?_⟩
 obtain ⟨l0,o0,h1,h2,h3⟩:=r.mem ha
 subst z
 exact h3.mut.2.1 hp
theorem RSt.new_lst (r:RSt ΩP Ωw K mg ι H S) {p:Addr} (hp:H p = none) {xs:List PV} {vs:List V} (h:RpL K ι H xs vs):Ext ι H (ι ++ [p]) (upd H p (.lst vs))∧RSt ΩP Ωw K mg (ι ++ [p]) (upd H p (.lst vs)) (S ++ [.lst xs])∧Rp K (ι ++ [p]) (upd H p (.lst vs)) (.loc S.length) (.ref p):=by
 have E:Ext ι H (ι ++ [p]) (upd H p (.lst vs)):=.alloc hp
 exact ⟨E,r.alloc hp (fun _ _ _ _ => trivial) E ⟨vs,upd_same,h.up E⟩,p,rfl,by rw [← r.len]; simp⟩
end

def REn (K:PySem.W.Frag) (ι : List Addr) (H:Hp):En→L2.St→Prop
 | [],σ => σ = []
 | none :: τ,σ => ∃ r,σ = none :: r∧REn K ι H τ r
 | some x :: τ,σ => ∃ v r,σ = some v :: r∧Rp K ι H x v∧REn K ι H τ r
section
variable {K:PySem.W.Frag} {ι ι':List Addr} {H H':Hp}
theorem REn.up:∀ {τ : En} {σ : L2.St},REn K ι H τ σ→Ext ι H ι' H'→REn K ι' H' τ σ
 | [],_,h,_ => h
 | none :: τ,_,h,e => by
  obtain ⟨r,rfl,q⟩:=h
  exact ⟨r,rfl,q.up e⟩
 | some x :: τ,_,h,e => by
  obtain ⟨v,r,rfl,h1,q⟩:=h
  exact ⟨v,r,rfl,h1.up e,q.up e⟩
theorem REn.get:∀ {τ : En} {σ : L2.St} {i:Nat} {x:PV},REn K ι H τ σ→τ[i]? = some (some x)→∃ v,σ[i]? = some (some v)∧Rp K ι H x v
 | [],_,_,_,_,e => by simp at e
 | none :: τ,_,0,x,h,e => by simp at e
 | some y :: τ,_,0,x,h,e => by
  obtain ⟨v,r,rfl,h1,q⟩:=h
  simp at e; subst e
  exact ⟨v,rfl,h1⟩
 | none :: τ,_,i + 1,x,h,e => by
  obtain ⟨r,rfl,q⟩:=h
  obtain ⟨v,h1,h2⟩:=REn.get (i:=i) q (by simpa using e)
  exact ⟨v,by simpa using h1,h2⟩
 | some y :: τ,_,i + 1,x,h,e => by
  obtain ⟨v,r,rfl,h1,q⟩:=h
  obtain ⟨v,h1,h2⟩:=REn.get (i:=i) q (by simpa using e)
  exact ⟨v,by simpa using h1,h2⟩
theorem REn.set:∀ {τ : En} {σ : L2.St} {x:PV} {v:V} (i:Nat),REn K ι H τ σ→Rp K ι H x v→REn K ι H (τ.set i (some x)) (σ.set i (some v))
 | [],_,_,_,i,h,_ => by have h:_ = []:=h; subst h; rfl
 | none :: τ,_,x,v,0,h,hx => by
  obtain ⟨r,rfl,q⟩:=h
  exact ⟨v,r,rfl,hx,q⟩
 | some y :: τ,_,x,v,0,h,hx => by
  obtain ⟨w,r,rfl,h1,q⟩:=h
  exact ⟨v,r,rfl,hx,q⟩
 | none :: τ,_,x,v,i + 1,h,hx => by
  obtain ⟨r,rfl,q⟩:=h
  exact ⟨r.set i (some v),rfl,REn.set i q hx⟩
 | some y :: τ,_,x,v,i + 1,h,hx => by
  obtain ⟨w,r,rfl,h1,q⟩:=h
  exact ⟨w,r.set i (some v),rfl,h1,REn.set i q hx⟩
theorem REn.unset:∀ {τ : En} {σ : L2.St} (i:Nat),REn K ι H τ σ→REn K ι H (τ.set i none) (σ.set i none)
 | [],_,i,h => by have h:_ = []:=h; subst h; rfl
 | none :: τ,_,0,h => by
  obtain ⟨r,rfl,q⟩:=h
  exact ⟨r,rfl,q⟩
 | some y :: τ,_,0,h => by
  obtain ⟨w,r,rfl,h1,q⟩:=h
  exact ⟨r,rfl,q⟩
 | none :: τ,_,i + 1,h => by
  obtain ⟨r,rfl,q⟩:=h
  exact ⟨r.set i none,rfl,REn.unset i q⟩
 | some y :: τ,_,i + 1,h => by
  obtain ⟨w,r,rfl,h1,q⟩:=h
  exact ⟨w,r.set i none,rfl,h1,REn.unset i q⟩
theorem REn.nones:∀ n:Nat,REn K ι H (List.replicate n none) (List.replicate n none)
 | 0 => rfl
 | n + 1 => ⟨List.replicate n none,rfl,REn.nones n⟩
theorem REn.args:∀ {ps:List PV} {vs:List V} {τ : En} {σ : L2.St},RpL K ι H ps vs→REn K ι H τ σ→REn K ι H (ps.map some ++ τ) (vs.map some ++ σ)
 | [],_,_,_,h,q => by have h:_ = []:=h; subst h; exact q
 | p :: ps,_,_,_,h,q => by
  obtain ⟨v,r,rfl,h1,h2⟩:=h
  exact ⟨v,r.map some ++ _,rfl,h1,REn.args h2 q⟩
end
structure ExtW (ι : List Addr) (H:Hp) (ι':List Addr) (H':Hp):Prop where
 pre:∀ (l:Nat) (a:Addr),ι[l]? = some a→ι'[l]? = some a
 tups:∀ a xs,H a = some (.tup xs)→H' a = some (.tup xs)
 frzs:∀ a o u,H a = some (.frz o u)→H' a = some (.frz o u)
theorem FzT.upW {K:PySem.W.Frag} {ι ι':List Addr} {H H':Hp} {a:Addr} {xs:List V} (h:FzT K H a xs) (e:ExtW ι H ι' H'):FzT K H' a xs:=h.imp (fun ⟨o,h,hd⟩ => ⟨o,e.frzs a o _ h,hd⟩) id
theorem FzL.upW {K:PySem.W.Frag} {ι ι':List Addr} {H H':Hp} {a:Addr} {xs:List V} (h:FzL K H a xs) (e:ExtW ι H ι' H'):FzL K H' a xs:=h.imp (fun ⟨o,h⟩ => ⟨o,e.frzs a o _ h⟩) id
theorem Ext.w {ι ι':List Addr} {H H':Hp} (e:Ext ι H ι' H'):ExtW ι H ι' H':=⟨e.pre,e.tups,e.frzs⟩
theorem ExtW.refl {ι : List Addr} {H:Hp}:ExtW ι H ι H:=⟨fun _ _ h => h,fun _ _ h => h,fun _ _ _ h => h⟩
theorem ExtW.trans {ι ι1 ι2:List Addr} {H H1 H2:Hp} (a:ExtW ι H ι1 H1) (b:ExtW ι1 H1 ι2 H2):ExtW ι H ι2 H2 :=
 ⟨fun l x h => b.pre l x (a.pre l x h),fun x xs h => b.tups x xs (a.tups x xs h),fun x o u h => b.frzs x o u (a.frzs x o u h)⟩
mutual
theorem Rp.upW {K:PySem.W.Frag} {ι ι':List Addr} {H H':Hp} (e:ExtW ι H ι' H'):∀ (x:PV) (v:V),Rp K ι H x v→Rp K ι' H' x v
 | .non,_,h => h
 | .bl _,_,h => h
 | .int _,_,h => h
 | .str _,_,h => h
 | .tup xs,v,h => by
  obtain ⟨a,vs,e1,e2,e3⟩:=h
  exact ⟨a,vs,e1,e2.upW e,RpL.upW e xs vs e3⟩
 | .fls xs,v,h => by
  obtain ⟨a,vs,e1,e2,e3⟩:=h
  exact ⟨a,vs,e1,e2.upW e,RpL.upW e xs vs e3⟩
 | .loc l,v,h => by
  obtain ⟨a,e1,e2⟩:=h
  exact ⟨a,e1,e.pre l a e2⟩
 | .fn a u m,_,h => ⟨h.1,Rp.upW e m u h.2⟩
theorem RpL.upW {K:PySem.W.Frag} {ι ι':List Addr} {H H':Hp} (e:ExtW ι H ι' H'):∀ (xs:List PV) (vs:List V),RpL K ι H xs vs→RpL K ι' H' xs vs
 | [],_,h => h
 | x :: xs,vs,h => by
  obtain ⟨v,r,e1,e2,e3⟩:=h
  exact ⟨v,r,e1,Rp.upW e x v e2,RpL.upW e xs r e3⟩
end
theorem RpF.upW {K:PySem.W.Frag} {ι ι':List Addr} {H H':Hp} {κ : Type} (e:ExtW ι H ι' H'):∀ {fs:List (κ × PV)} {ws:List (κ × V)},RpF K ι H fs ws→RpF K ι' H' fs ws
 | [],_,h => h
 | (k,x) :: r,_,h => by
  obtain ⟨v,w,rfl,h1,h2⟩:=h
  exact ⟨v,w,rfl,Rp.upW e x v h1,RpF.upW e h2⟩
theorem REn.upW {K:PySem.W.Frag} {ι ι':List Addr} {H H':Hp} (e:ExtW ι H ι' H'):∀ {τ : En} {σ : L2.St},REn K ι H τ σ→REn K ι' H' τ σ
 | [],_,h => h
 | none :: τ,_,h => by
  obtain ⟨r,rfl,q⟩:=h
  exact ⟨r,rfl,REn.upW e q⟩
 | some x :: τ,_,h => by
  obtain ⟨v,r,rfl,h1,q⟩:=h
  exact ⟨v,r,rfl,Rp.upW e x v h1,REn.upW e q⟩
def startE (n:Nat) (ps:List PV):En:=ps.map some ++ List.replicate (n - ps.length) none
theorem REn.start {K:PySem.W.Frag} {ι : List Addr} {H:Hp} {N:List Str} {ps:List PV} {vs:List V} (h:RpL K ι H ps vs):REn K ι H (startE N.length ps) (L2.start N vs):=by
 unfold startE L2.start
 rw [h.length]
 exact REn.args h (REn.nones _)
end PL
namespace PL
open PySem PySem.Spec PyProof.Rows L2

def ErrOk (X:Cx) (W:WX) (σ : L2.St) (ι : List Addr) (H:Hp) (c:Str) (p:PV) (S':Sto):Prop :=
 ∀ (ι':List Addr) (H':Hp) (Ca d:Addr) (x:V),Ext ι H ι' H'→RSt X.prog X.w X.K X.mg ι' H' S'→X.mg c = some (.ref Ca)→H' d = some (.xd [("what",x)])→Rp X.K ι' H' p x→W (.ref Ca) (some d) σ H'
theorem ErrOk.up {X:Cx} {W:WX} {σ : L2.St} {ι ι1:List Addr} {H H1:Hp} {c:Str} {p:PV} {S':Sto} (h:ErrOk X W σ ι H c p S') (e:Ext ι H ι1 H1):ErrOk X W σ ι1 H1 c p S' :=
 fun ι' H' Ca d x e' r m hd q => h ι' H' Ca d x (e.trans e') r m hd q
abbrev RR (α β : Type):=List Addr→Hp→α→β→Prop
def Pk {α β : Type} (X:Cx) (W:WX) (R:RR α β) (σ : L2.St) (Q : β→Hp→Prop) (ι : List Addr) (H:Hp) (o:Out α):Prop :=
 wp o (fun v S' => ∀ ι' H' x,Ext ι H ι' H'→RSt X.prog X.w X.K X.mg ι' H' S'→R ι' H' v x→Q x H') (ErrOk X W σ ι H)
section
variable {α β γ δ : Type} {X:Cx} {W:WX} {R:RR α β} {R':RR γ δ} {σ : L2.St} {Q Q' : β→Hp→Prop} {P : δ→Hp→Prop} {ι ι1:List Addr} {H H1:Hp} {o:Out α} {S S1:Sto}
theorem Pk.mono (h:Pk X W R σ Q ι H o) (w:∀ x H1,Q x H1→Q' x H1):Pk X W R σ Q' ι H o :=
 wp_mono h (fun v S' k ι' H' x e r q => w _ _ (k ι' H' x e r q)) fun _ _ _ k => k
theorem Pk.up (h:Pk X W R σ Q ι H o) (e:Ext ι H ι1 H1):Pk X W R σ Q ι1 H1 o :=
 wp_mono h (fun v S' k ι' H' x e' r q => k ι' H' x (e.trans e') r q) fun _ _ _ k => k.up e
theorem Pk.next {f : α→Sto→Out γ} (h:Pk X W R' σ P ι H (bnd o f)) :
  Pk X W R σ (fun x H1 => ∃ a ι1 S1,Ext ι H ι1 H1∧RSt X.prog X.w X.K X.mg ι1 H1 S1∧R ι1 H1 a x∧Pk X W R' σ P ι1 H1 (f a S1)) ι H o:=by
 unfold Pk at h
 rw [wp_bnd] at h
 exact wp_mono h (fun a S k ι' H' x e r q => ⟨a,ι',S,e,r,q,Pk.up (o:=f a S) k e⟩) fun _ _ _ k => k
end
def gE {α β : Type} (X:Cx) (W:WX) (R:RR α β) (m:EM α):L2.St→Hp→(β→Hp→Prop)→Prop:=fun σ H Q =>
 ∃ ι τ S,RSt X.prog X.w X.K X.mg ι H S∧REn X.K ι H τ σ∧Pk X W R σ Q ι H (m τ S)
abbrev rV (X:Cx):RR PV V:=Rp X.K
abbrev rB:RR Bool Bool:=fun _ _ v x => v = x
abbrev rL (X:Cx):RR (List PV) (List V):=RpL X.K
structure RE (X:Cx) (W:WX) (e:Expr) (m:EM PV):Prop where
 pe:PE X e (gE X W (rV X) m)
structure RT (X:Cx) (W:WX) (e:Expr) (m:EM Bool):Prop where
 pt:PT X e (gE X W rB m)
structure RW (X:Cx) (W:WX) (e:Expr) (m:EM Bool):Prop where
 pw:PW X e (gE X W rB m)
structure RA (X:Cx) (W:WX) (es:List Expr) (m:EM (List PV)):Prop where
 pa:PA X es (gE X W (rL X) m)
theorem pe_weak {X:Cx} {e:Expr} {t t':TE} (h:PE X e t) (w:∀ σ H Q,t' σ H Q→t σ H Q):PE X e t':=⟨fun pins s σ H Q I hh => h.run pins s σ H Q I (w σ H Q hh)⟩
theorem pt_weak {X:Cx} {e:Expr} {t t':TT} (h:PT X e t) (w:∀ σ H Q,t' σ H Q→t σ H Q):PT X e t':=⟨fun pins s σ H Q I hh => h.run pins s σ H Q I (w σ H Q hh)⟩
theorem pw_weak {X:Cx} {e:Expr} {t t':TT} (h:PW X e t) (w:∀ σ H Q,t' σ H Q→t σ H Q):PW X e t':=⟨fun wh pins s σ H Q I hh => h.run wh pins s σ H Q I (w σ H Q hh)⟩
theorem pa_weak {X:Cx} {e:List Expr} {t t':TA} (h:PA X e t) (w:∀ σ H Q,t' σ H Q→t σ H Q):PA X e t':=⟨fun pos pins s σ H Q I hh => h.run pos pins s σ H Q I (w σ H Q hh)⟩

def lift {α : Type}:Option (α × Sto)→Out α
 | some (v,S) => .ok v S
 | none => .bad
@[simp] theorem lift_some {α : Type} (v : α) (S:Sto):lift (some (v,S)) = .ok v S:=rfl
@[simp] theorem lift_none {α : Type}:lift (none:Option (α × Sto)) = .bad:=rfl
theorem pk_lift {α β : Type} {X:Cx} {W:WX} {R:RR α β} {σ : L2.St} {Q : β→Hp→Prop} {ι : List Addr} {H:Hp} {o:Option (α × Sto)} (h:Pk X W R σ Q ι H (lift o)) :
  ∃ v S',o = some (v,S')∧∀ ι' H' x,Ext ι H ι' H'→RSt X.prog X.w X.K X.mg ι' H' S'→R ι' H' v x→Q x H':=by
 cases o with
 | none => exact h.elim
 | some q => obtain ⟨v,S'⟩:=q; exact ⟨v,S',rfl,h⟩

abbrev Op2:=PV→PV→Sto→Option (PV × Sto)
def gOp (X:Cx) (f:Op2):R2:=fun x y H Q => ∃ ι S p q v S',RSt X.prog X.w X.K X.mg ι H S∧Rp X.K ι H p x∧Rp X.K ι H q y∧f p q S = some (v,S') ∧
 ∀ ι' H' z,Ext ι H ι' H'→RSt X.prog X.w X.K X.mg ι' H' S'→Rp X.K ι' H' v z→Q z H'
def binM (f:Op2) (ma mb:EM PV):EM PV:=fun τ S => bnd (ma τ S) fun p S1 => bnd (mb τ S1) fun q S2 => lift (f p q S2)
section
variable {X:Cx} {W:WX} {a b c e:Expr} {ma mb mc:EM PV} {pos:Pos} {f f':Op2}
theorem bin_read (σ : L2.St) (H:Hp) (Q:VK) (h:gE X W (rV X) (binM f ma mb) σ H Q):tOp (gOp X f) (gE X W (rV X) ma) (gE X W (rV X) mb) σ H Q:=by
 obtain ⟨ι,τ,S,r,ρ,pk⟩:=h
 refine ⟨ι,τ,S,r,ρ,pk.next.mono ?_⟩
 rintro x H1 ⟨p,ι1,S1,e1,r1,q1,pk1⟩
 refine ⟨ι1,τ,S1,r1,ρ.up e1,pk1.next.mono ?_⟩
 rintro y H2 ⟨q,ι2,S2,e2,r2,q2,pk2⟩
 obtain ⟨v,S',hf,k⟩:=pk_lift pk2
 exact ⟨ι2,S2,p,q,v,S',r2,q1.up e2,q2,hf,k⟩
theorem re_bin {op:Operator} (ho:OpR X (binaryOp op) (gOp X f)) (ha:RE X W a ma) (hb:RE X W b mb):RE X W (.BinOp a op b pos) (binM f ma mb) :=
 ⟨pe_weak (pe_op ho ha.pe hb.pe) bin_read⟩
theorem re_cmp {op:CmpOp} (ho:OpR X (compareOp op) (gOp X f)) (ha:RE X W a ma) (hb:RE X W b mb) (hm:behindInMarks op b = false:=by first | exact nomark _ | rfl):RE X W (.Compare a [op] [b] pos) (binM f ma mb) :=
 ⟨pe_weak (pe_cmpR ho ha.pe hb.pe hm) bin_read⟩
def blM (m:EM PV):EM Bool:=fun τ S => bnd (m τ S) fun v S1 => match v with | .bl b => .ok b S1 | _ => .bad
theorem bl_read {m:EM PV} (σ : L2.St) (H:Hp) (Q:Bool→Hp→Prop) (h:gE X W rB (blM m) σ H Q):gE X W (rV X) m σ H (fun x H1 => ∃ k,x = .bl k∧Q k H1):=by
 obtain ⟨ι,τ,S,r,ρ,pk⟩:=h
 refine ⟨ι,τ,S,r,ρ,pk.next.mono ?_⟩
 rintro x H1 ⟨p,ι1,S1,e1,r1,q1,pk1⟩
 cases p with
 | bl k => exact ⟨k,q1,pk1 ι1 H1 k .refl r1 rfl⟩
 | _ => exact pk1.elim
theorem gE_mono {α β : Type} {R:RR α β} {m:EM α} {σ : L2.St} {H:Hp} {Q Q' : β→Hp→Prop} (h:gE X W R m σ H Q) (w:∀ x H1,Q x H1→Q' x H1):gE X W R m σ H Q':=by
 obtain ⟨ι,τ,S,r,ρ,pk⟩:=h
 exact ⟨ι,τ,S,r,ρ,pk.mono w⟩
theorem rt_cmp {op:CmpOp} (ho:OpR X (compareOp op) (gOp X f)) (ha:RE X W a ma) (hb:RE X W b mb) (hm:behindInMarks op b = false:=by first | exact nomark _ | rfl):RT X W (.Compare a [op] [b] pos) (blM (binM f ma mb)) :=
 ⟨pt_weak (pt_cmpR ho ha.pe hb.pe hm) fun σ H Q h => bin_read σ H _ (bl_read σ H Q h)⟩
def chainM (f f':Op2) (ma mb mc:EM PV):EM PV:=fun τ S => bnd (ma τ S) fun p S1 => bnd (mb τ S1) fun q S2 => bnd (lift (f p q S2)) fun v S3 =>
 match v with | .bl true => bnd (mc τ S3) fun z S4 => lift (f' q z S4) | .bl false => .ok (.bl false) S3 | _ => .bad
theorem chain_read (σ : L2.St) (H:Hp) (Q:VK) (h:gE X W (rV X) (chainM f f' ma mb mc) σ H Q):tChain (gOp X f) (gOp X f') (gE X W (rV X) ma) (gE X W (rV X) mb) (gE X W (rV X) mc) σ H Q:=by
 obtain ⟨ι,τ,S,r,ρ,pk⟩:=h
 refine ⟨ι,τ,S,r,ρ,pk.next.mono ?_⟩
 rintro x H1 ⟨p,ι1,S1,e1,r1,q1,pk1⟩
 refine ⟨ι1,τ,S1,r1,ρ.up e1,pk1.next.mono ?_⟩
 rintro y H2 ⟨q,ι2,S2,e2,r2,q2,pk2⟩
 obtain ⟨v,S',hf,k⟩:=pk_lift (R:=rV X) (Q:=fun z H3 => ∃ a ι3 S3,Ext ι2 H2 ι3 H3∧RSt X.prog X.w X.K X.mg ι3 H3 S3∧rV X ι3 H3 a z∧_) pk2.next
 refine ⟨ι2,S2,p,q,v,S',r2,q1.up e2,q2,hf,fun ι3 H3 z e3 r3 qz => ?_⟩
 obtain ⟨v3,ι4,S4,e4,r4,q4,pk4⟩:=k ι3 H3 z e3 r3 qz
 cases v3 with
 | bl k =>
  refine ⟨k,q4,?_⟩
  cases k with
  | false => exact pk4 _ _ _ .refl r4 rfl
  | true =>
   rw [if_pos rfl]
   refine ⟨ι4,τ,S4,r4,((ρ.up e1).up e2).up e4,pk4.next.mono ?_⟩
   rintro w H5 ⟨z5,ι5,S5,e5,r5,q5,pk5⟩
   obtain ⟨v6,S6,hf6,k6⟩:=pk_lift pk5
   exact ⟨ι5,S5,q,z5,v6,S6,r5,(q2.up e4).up e5,q5,hf6,k6⟩
 | _ => exact pk4.elim
theorem re_chain {op op':CmpOp} (ho:OpR X (compareOp op) (gOp X f)) (ho':OpR X (compareOp op') (gOp X f')) (ha:RE X W a ma) (hb:RE X W b mb) (hc:RE X W c mc) (hm:lastMarks [op,op'] [b,c] = false:=by rfl)
  : RE X W (.Compare a [op,op'] [b,c] pos) (chainM f f' ma mb mc) :=
 ⟨pe_weak (pe_chain ho ho' ha.pe hb.pe hc.pe hm) chain_read⟩
theorem rt_chain {op op':CmpOp} (ho:OpR X (compareOp op) (gOp X f)) (ho':OpR X (compareOp op') (gOp X f')) (ha:RE X W a ma) (hb:RE X W b mb) (hc:RE X W c mc) (hm:lastMarks [op,op'] [b,c] = false:=by rfl)
  : RT X W (.Compare a [op,op'] [b,c] pos) (blM (chainM f f' ma mb mc)) :=
 ⟨pt_weak (pt_chain ho ho' ha.pe hb.pe hc.pe hm) fun σ H Q h => chain_read σ H _ (bl_read σ H Q h)⟩
end
end PL
namespace PL
open PySem PySem.Spec PyProof.Rows L2
section
variable {X:Cx} {W:WX} {a b c e:Expr} {es rest:List Expr} {ma mb mc:EM PV} {tA tB':EM Bool} {mas:EM (List PV)} {pos:Pos}
def vV (i:Nat):EM PV:=fun τ S => match τ[i]? with | some (some v) => .ok v S | _ => .bad
def cV (v:PV):EM PV:=fun _ S => .ok v S
@[simp] theorem cV_ap (v:PV) (τ : En) (S:Sto):cV v τ S = .ok v S:=rfl
theorem re_var (i:Nat) {x:Str} (hN:X.N[i]? = some x:=by rfl) (hv:Vis X.env.scope x:=by first | exact Or.inl rfl | exact Or.inr (Or.inl rfl) | exact Or.inr (Or.inr rfl)) (hd:(x == ("__debug__" : Str)) = false:=by decide)
  (hcd:(x == ("__classdict__" : Str)) = false:=by decide):RE X W (.Name x pos) (vV i):=by
 refine ⟨pe_weak (pe_var hN hv hd hcd) fun σ H Q h => ?_⟩
 obtain ⟨ι,τ,S,r,ρ,pk⟩:=h
 cases hτ : τ[i]? with
 | none => simp only [vV,hτ] at pk; exact pk.elim
 | some o =>
  cases o with
  | none => simp only [vV,hτ] at pk; exact pk.elim
  | some v =>
   simp only [vV,hτ] at pk
   obtain ⟨x,h1,h2⟩:=ρ.get hτ
   exact ⟨x,h1,pk _ _ _ .refl r h2⟩
theorem re_cst {v:PV} {w:V} {e:Expr} (h:PE X e (tC w)) (r0:∀ ι H,Rp X.K ι H v w):RE X W e (cV v):=by
 refine ⟨pe_weak h fun σ H Q h => ?_⟩
 obtain ⟨ι,τ,S,r,ρ,pk⟩:=h
 exact pk _ _ _ .refl r (r0 _ _)
theorem re_int {i j}:RE X W (.Constant (.int i) j pos) (cV (.int i)):=re_cst pe_int fun _ _ => rfl
theorem re_bl {i j}:RE X W (.Constant (.bool i) j pos) (cV (.bl i)):=re_cst pe_bl fun _ _ => rfl
theorem re_non {j}:RE X W (.Constant .none j pos) (cV .non):=re_cst pe_non fun _ _ => rfl
theorem re_str {i j}:RE X W (.Constant (.str i) j pos) (cV (.str i)):=re_cst pe_str fun _ _ => rfl
theorem re_glob {x:Str} {v:PV} {w:V} {u:Value} (hg:Gl X x) (hm:X.mg x = some u) (r:RelV w u) (r0:∀ ι H,Rp X.K ι H v w) (hd:(x == ("__debug__" : Str)) = false:=by decide):RE X W (.Name x pos) (cV v):=re_cst (pe_glob hg hm r hd) r0
def isNon:PV→Bool
 | .non => true
 | _ => false
def isNM (m:EM PV):EM PV:=fun τ S => bnd (m τ S) fun p S1 => .ok (.bl (isNon p)) S1
def notNM (m:EM PV):EM PV:=fun τ S => bnd (m τ S) fun p S1 => .ok (.bl (!isNon p)) S1
theorem rp_non {K:PySem.W.Frag} {ι : List Addr} {H:Hp} {p:PV} {x:V} (h:Rp K ι H p x):decide (x = .non) = isNon p:=by
 cases p with
 | non => have h:x = _:=h; subst h; rfl
 | bl b => have h:x = _:=h; subst h; rfl
 | int b => have h:x = _:=h; subst h; rfl
 | str b => have h:x = _:=h; subst h; rfl
 | tup xs => obtain ⟨_,_,rfl,_⟩:=h; rfl
 | fls xs => obtain ⟨_,_,rfl,_⟩:=h; rfl
 | loc l => obtain ⟨_,rfl,_⟩:=h; rfl
 | fn l u m => cases h.1; rfl
theorem isN_read (σ : L2.St) (H:Hp) (Q:VK) (h:gE X W (rV X) (isNM ma) σ H Q):tIsN (gE X W (rV X) ma) σ H Q:=by
 obtain ⟨ι,τ,S,r,ρ,pk⟩:=h
 refine ⟨ι,τ,S,r,ρ,pk.next.mono ?_⟩
 rintro x H1 ⟨p,ι1,S1,e1,r1,q1,pk1⟩
 exact pk1 _ _ _ .refl r1 (by rw [rp_non q1]; rfl)
theorem notN_read (σ : L2.St) (H:Hp) (Q:VK) (h:gE X W (rV X) (notNM ma) σ H Q):tNotN (gE X W (rV X) ma) σ H Q:=by
 obtain ⟨ι,τ,S,r,ρ,pk⟩:=h
 refine ⟨ι,τ,S,r,ρ,pk.next.mono ?_⟩
 rintro x H1 ⟨p,ι1,S1,e1,r1,q1,pk1⟩
 exact pk1 _ _ _ .refl r1 (by rw [rp_non q1]; rfl)
theorem re_isN {j pos'} (ha:RE X W a ma):RE X W (.Compare a [.Is] [.Constant .none j pos'] pos) (isNM ma):=⟨pe_weak (pe_cmp (pc_isN ha.pe)) isN_read⟩
theorem rt_isN {j pos'} (ha:RE X W a ma):RT X W (.Compare a [.Is] [.Constant .none j pos'] pos) (blM (isNM ma)):=⟨pt_weak (pt_cmp (pc_isN ha.pe)) fun σ H Q h => isN_read σ H _ (bl_read σ H Q h)⟩
theorem rt_notN {j pos'} (ha:RE X W a ma):RT X W (.Compare a [.IsNot] [.Constant .none j pos'] pos) (blM (notNM ma)):=⟨pt_weak (pt_cmp (pc_notN ha.pe)) fun σ H Q h => notN_read σ H _ (bl_read σ H Q h)⟩
def truP (p:PV) (S:Sto):Option Bool:=match p with
 | .non => some false
 | .bl b => some b
 | .int i => some (i != 0)
 | .str x => if x.length ≤ 16777216 then some ((x.length:Int) != 0) else none
 | .tup xs => some (!xs.isEmpty)
 | .fls xs => some (!xs.isEmpty)
 | .loc l => match S[l]? with
  | some (.lst xs) => some (!xs.isEmpty)
  | some (.dct kvs) => some (!kvs.isEmpty)
  | _ => none
 | .fn _ _ _ => none
def truM (m:EM PV):EM Bool:=fun τ S => bnd (m τ S) fun p S1 => match truP p S1 with | some b => .ok b S1 | none => .bad
theorem RpL.isEmpty {K:PySem.W.Frag} {ι : List Addr} {H:Hp} {xs:List PV} {vs:List V} (h:RpL K ι H xs vs):xs.isEmpty = vs.isEmpty:=by
 have:=h.length
 cases xs <;> cases vs <;> simp_all
theorem RpF.isEmpty {K:PySem.W.Frag} {ι : List Addr} {H:Hp} {κ : Type} {xs:List (κ × PV)} {vs:List (κ × V)} (h:RpF K ι H xs vs):xs.isEmpty = vs.isEmpty:=by
 have:=h.length
 cases xs <;> cases vs <;> simp_all
theorem tru_ok' {ι : List Addr} {H:Hp} {S:Sto} {p:PV} {x:V} {b:Bool} (r:RSt X.prog X.w X.K X.mg ι H S) (q:Rp X.K ι H p x) (h:truP p S = some b):TruV X.K x H b:=by
 cases p with
 | non => have q:x = _:=q; subst q; have h:some false = some b:=h; cases h; exact rfl
 | bl k => have q:x = _:=q; subst q; have h:some k = some b:=h; cases h; exact rfl
 | int i => have q:x = _:=q; subst q; have h:some (i != 0) = some b:=h; cases h; exact rfl
 | str y =>
  have q:x = _:=q
  subst q
  unfold truP at h
  simp only at h
  split at h
  ·rename_i hl
   cases h
   exact ⟨by rw [sizeLine_eq]; exact hl,rfl⟩
  ·cases h
 | tup xs =>
  obtain ⟨a,vs,rfl,h1,h2⟩:=q
  have h:some (!xs.isEmpty) = some b:=h
  cases h
  exact .inr (.inl ⟨vs,h1.seq,by rw [h2.isEmpty]⟩)
 | fls xs =>
  obtain ⟨a,vs,rfl,h1,h2⟩:=q
  have h:some (!xs.isEmpty) = some b:=h
  cases h
  exact .inl ⟨vs,h1.seq,by rw [h2.isEmpty]⟩
 | loc l =>
  obtain ⟨a,rfl,h1⟩:=q
  unfold truP at h
  simp only at h
  cases hS:S[l]? with
  | none => rw [hS] at h; cases h
  | some o =>
   rw [hS] at h
   have ho:=r.obj l a o h1 hS
   cases o with
   | lst xs =>
    cases h
    obtain ⟨vs,h3,h4⟩:=ho
    exact .inl ⟨vs,.of h3,by rw [h4.isEmpty]⟩
   | dct kvs =>
    cases h
    obtain ⟨vs,h3,h4⟩:=ho
    exact .inr (.inr ⟨vs,h3,by rw [h4.isEmpty]⟩)
   | ins C fs => cases h
   | dtp kvs => cases h
   | tab nm kvs => cases h
   | exc C p => cases h
   | ndt kvs => cases h
 | fn l u m => cases h
theorem rt_tru (ha:RE X W a ma) (he:∀ whole,isTrue a X.env whole = (do let v ← whole; standAt a.pos; holding [v] (truthy v)):=by intro _; rfl):RT X W a (truM ma):=by
 refine ⟨pt_weak (pt_truth ha.pe he) fun σ H Q h => ?_⟩
 obtain ⟨ι,τ,S,r,ρ,pk⟩:=h
 refine ⟨ι,τ,S,r,ρ,pk.next.mono ?_⟩
 rintro x H1 ⟨p,ι1,S1,e1,r1,q1,pk1⟩
 cases ht:truP p S1 with
 | none => rw [ht] at pk1; exact pk1.elim
 | some k =>
  rw [ht] at pk1
  exact ⟨k,tru_ok' r1 q1 ht,pk1 _ _ _ .refl r1 rfl⟩
def andM (s t:EM Bool):EM Bool:=fun τ S => bnd (s τ S) fun k S1 => if k = true then t τ S1 else .ok false S1
def orM (s t:EM Bool):EM Bool:=fun τ S => bnd (s τ S) fun k S1 => if k = true then .ok true S1 else t τ S1
def notM (s:EM Bool):EM Bool:=fun τ S => bnd (s τ S) fun k S1 => .ok (!k) S1
theorem rt_of (h:RW X W e tA):RT X W e tA:=⟨h.pw.pt⟩
theorem rw_and1 (ha:RT X W a tA):RW X W (.BoolOp .And [a] pos) tA:=⟨pw_and1 ha.pt⟩
theorem rw_or1 (ha:RT X W a tA):RW X W (.BoolOp .Or [a] pos) tA:=⟨pw_or1 ha.pt⟩
theorem rw_and (ha:RT X W a tA) (hb:RW X W (.BoolOp .And (b :: rest) pos) tB'):RW X W (.BoolOp .And (a :: b :: rest) pos) (andM tA tB'):=by
 refine ⟨pw_weak (pw_and ha.pt hb.pw) fun σ H Q h => ?_⟩
 obtain ⟨ι,τ,S,r,ρ,pk⟩:=h
 refine ⟨ι,τ,S,r,ρ,pk.next.mono ?_⟩
 rintro k H1 ⟨k',ι1,S1,e1,r1,q1,pk1⟩
 have q1:k' = k:=q1
 subst q1
 cases k' with
 | true => rw [if_pos rfl] at pk1 ⊢; exact ⟨ι1,τ,S1,r1,ρ.up e1,pk1⟩
 | false => exact pk1 _ _ _ .refl r1 rfl
theorem rw_or (ha:RT X W a tA) (hb:RW X W (.BoolOp .Or (b :: rest) pos) tB'):RW X W (.BoolOp .Or (a :: b :: rest) pos) (orM tA tB'):=by
 refine ⟨pw_weak (pw_or ha.pt hb.pw) fun σ H Q h => ?_⟩
 obtain ⟨ι,τ,S,r,ρ,pk⟩:=h
 refine ⟨ι,τ,S,r,ρ,pk.next.mono ?_⟩
 rintro k H1 ⟨k',ι1,S1,e1,r1,q1,pk1⟩
 have q1:k' = k:=q1
 subst q1
 cases k' with
 | true => rw [if_pos rfl] at pk1 ⊢; exact pk1 _ _ _ .refl r1 rfl
 | false => exact ⟨ι1,τ,S1,r1,ρ.up e1,pk1⟩
theorem rt_not (ha:RT X W a tA):RT X W (.UnaryOp .Not a pos) (notM tA):=by
 refine ⟨pt_weak (pt_not ha.pt) fun σ H Q h => ?_⟩
 obtain ⟨ι,τ,S,r,ρ,pk⟩:=h
 refine ⟨ι,τ,S,r,ρ,pk.next.mono ?_⟩
 rintro k H1 ⟨k',ι1,S1,e1,r1,q1,pk1⟩
 have q1:k' = k:=q1
 subst q1
 exact pk1 _ _ _ .refl r1 rfl
def andV (s t:EM PV):EM PV:=fun τ S => bnd (s τ S) fun v S1 => match v with | .bl true => t τ S1 | .bl false => .ok (.bl false) S1 | _ => .bad
def notV (s:EM PV):EM PV:=fun τ S => bnd (s τ S) fun v S1 => match v with | .bl k => .ok (.bl (!k)) S1 | _ => .bad
theorem re_one {op} (h:RE X W a ma):RE X W (.BoolOp op [a] pos) ma:=⟨pe_one h.pe⟩
theorem re_and (ha:RE X W a ma) (hb:RE X W (.BoolOp .And (b :: rest) pos) mb):RE X W (.BoolOp .And (a :: b :: rest) pos) (andV ma mb):=by
 refine ⟨pe_weak (pe_and ha.pe hb.pe) fun σ H Q h => ?_⟩
 obtain ⟨ι,τ,S,r,ρ,pk⟩:=h
 refine ⟨ι,τ,S,r,ρ,pk.next.mono ?_⟩
 rintro x H1 ⟨p,ι1,S1,e1,r1,q1,pk1⟩
 cases p with
 | bl k =>
  refine ⟨k,q1,?_⟩
  cases k with
  | true => exact ⟨ι1,τ,S1,r1,ρ.up e1,pk1⟩
  | false => exact pk1 _ _ _ .refl r1 rfl
 | _ => exact pk1.elim
theorem re_not (ha:RE X W a ma):RE X W (.UnaryOp .Not a pos) (notV ma):=by
 refine ⟨pe_weak (pe_not ha.pe) fun σ H Q h => ?_⟩
 obtain ⟨ι,τ,S,r,ρ,pk⟩:=h
 refine ⟨ι,τ,S,r,ρ,pk.next.mono ?_⟩
 rintro x H1 ⟨p,ι1,S1,e1,r1,q1,pk1⟩
 cases p with
 | bl k => exact ⟨k,q1,pk1 _ _ _ .refl r1 rfl⟩
 | _ => exact pk1.elim
def orTM (s t:EM PV):EM PV:=fun τ S => bnd (s τ S) fun v S1 => match truP v S1 with | some true => .ok v S1 | some false => t τ S1 | none => .bad
theorem re_orT (ha:RE X W a ma) (hb:RE X W (.BoolOp .Or (b :: rest) pos) mb):RE X W (.BoolOp .Or (a :: b :: rest) pos) (orTM ma mb):=by
 refine ⟨pe_weak (pe_orT ha.pe hb.pe) fun σ H Q h => ?_⟩
 obtain ⟨ι,τ,S,r,ρ,pk⟩:=h
 refine ⟨ι,τ,S,r,ρ,pk.next.mono ?_⟩
 rintro x H1 ⟨p,ι1,S1,e1,r1,q1,pk1⟩
 cases ht:truP p S1 with
 | none => rw [ht] at pk1; exact pk1.elim
 | some k =>
  rw [ht] at pk1
  refine ⟨k,tru_ok' r1 q1 ht,?_⟩
  cases k with
  | true => exact pk1 _ _ _ .refl r1 q1
  | false => exact ⟨ι1,τ,S1,r1,ρ.up e1,pk1⟩
def ifM (c:EM Bool) (s t:EM PV):EM PV:=fun τ S => bnd (c τ S) fun k S1 => if k = true then s τ S1 else t τ S1
theorem re_if (hc:RT X W c tA) (ha:RE X W a ma) (hb:RE X W b mb):RE X W (.IfExp c a b pos) (ifM tA ma mb):=by
 refine ⟨pe_weak (pe_ifExp hc.pt ha.pe hb.pe) fun σ H Q h => ?_⟩
 obtain ⟨ι,τ,S,r,ρ,pk⟩:=h
 refine ⟨ι,τ,S,r,ρ,pk.next.mono ?_⟩
 rintro k H1 ⟨k',ι1,S1,e1,r1,q1,pk1⟩
 have q1:k' = k:=q1
 subst q1
 cases k' with
 | true => exact ⟨ι1,τ,S1,r1,ρ.up e1,pk1⟩
 | false => exact ⟨ι1,τ,S1,r1,ρ.up e1,pk1⟩
def aN:EM (List PV):=fun _ S => .ok [] S
def aC (m:EM PV) (ms:EM (List PV)):EM (List PV):=fun τ S => bnd (m τ S) fun p S1 => bnd (ms τ S1) fun ps S2 => .ok (p :: ps) S2
theorem ra_nil:RA X W [] aN:=by
 refine ⟨pa_weak pa_nil fun σ H Q h => ?_⟩
 obtain ⟨ι,τ,S,r,ρ,pk⟩:=h
 exact pk _ _ _ .refl r rfl
theorem ra_cons (ha:RE X W e ma) (hr:RA X W es mas) (hs:starEach (e :: es) X.env = (false,eval e X.env) :: starEach es X.env:=by rfl):RA X W (e :: es) (aC ma mas):=by
 refine ⟨pa_weak (pa_cons ha.pe hr.pa hs) fun σ H Q h => ?_⟩
 obtain ⟨ι,τ,S,r,ρ,pk⟩:=h
 refine ⟨ι,τ,S,r,ρ,pk.next.mono ?_⟩
 rintro x H1 ⟨p,ι1,S1,e1,r1,q1,pk1⟩
 refine ⟨ι1,τ,S1,r1,ρ.up e1,pk1.next.mono ?_⟩
 rintro xs H2 ⟨ps,ι2,S2,e2,r2,q2,pk2⟩
 exact pk2 _ _ _ .refl r2 ⟨x,xs,rfl,q1.up e2,q2⟩
def tupM (ms:EM (List PV)):EM PV:=fun τ S => bnd (ms τ S) fun ps S1 => if ps.length ≤ 16777216 then .ok (.tup ps) S1 else .bad
def lstM (ms:EM (List PV)):EM PV:=fun τ S => bnd (ms τ S) fun ps S1 => if ps.length ≤ 16777216 then .ok (.loc S1.length) (S1 ++ [.lst ps]) else .bad
theorem re_tup {x1} (h:RA X W es mas):RE X W (.Tuple es x1 pos) (tupM mas):=by
 refine ⟨pe_weak (PLz.pe_tupZ h.pa) fun σ H Q h => ?_⟩
 obtain ⟨ι,τ,S,r,ρ,pk⟩:=h
 refine ⟨ι,τ,S,r,ρ,pk.next.mono ?_⟩
 rintro xs H1 ⟨ps,ι1,S1,e1,r1,q1,pk1⟩
 split at pk1
 ·rename_i hl
  refine ⟨by rw [← q1.length,sizeLine_eq]; exact hl,fun p hp o ho => ?_⟩
  obtain ⟨E,r2⟩:=r1.tup (ho:=.frz o (.tup xs)) hp
  exact pk1 _ _ _ E r2 ⟨p,xs,rfl,.inl ⟨o,upd_same,ho⟩,q1.up E⟩
 ·exact pk1.elim
theorem re_lst (h:RA X W es mas):RE X W (.List es pos) (lstM mas):=by
 refine ⟨pe_weak (pe_lst h.pa) fun σ H Q h => ?_⟩
 obtain ⟨ι,τ,S,r,ρ,pk⟩:=h
 refine ⟨ι,τ,S,r,ρ,pk.next.mono ?_⟩
 rintro xs H1 ⟨ps,ι1,S1,e1,r1,q1,pk1⟩
 split at pk1
 ·rename_i hl
  refine ⟨by rw [← q1.length,sizeLine_eq]; exact hl,fun p hp => ?_⟩
  obtain ⟨E,r2,q2⟩:=r1.new_lst hp q1
  exact pk1 _ _ _ E r2 q2
 ·exact pk1.elim
def itemsP (p:PV) (S:Sto):Option (List PV):=match p with
 | .tup xs => some xs
 | .fls xs => some xs
 | .loc l => match S[l]? with | some (.lst xs) => some xs | _ => none
 | _ => none
def keyP:PV→Option Key
 | .int i => some (.inl i)
 | .str x => some (.inr x)
 | _ => none
def getP:Op2:=fun p q S => match p,q with
 | .tup xs,.int i => (atI xs i).map fun v => (v,S)
 | .fls xs,.int i => (atI xs i).map fun v => (v,S)
 | .str x,.int i => if x.length ≤ 16777216 then (atI x.cps.toList i).map fun c => (.str ⟨#[c]⟩,S) else none
 | .loc l,q => match S[l]?,q with
  | some (.lst xs),.int i => (atI xs i).map fun v => (v,S)
  | _,_ => none
 | _,_ => none
theorem RpL.at {K:PySem.W.Frag} {ι : List Addr} {H:Hp} {xs:List PV} {vs:List V} {i:Int} {x:PV} (h:RpL K ι H xs vs) (e:atI xs i = some x):∃ v,atI vs i = some v∧Rp K ι H x v:=by
 unfold atI at e ⊢
 rw [← h.length]
 cases q:ixN xs.length i with
 | none => rw [q] at e; cases e
 | some j =>
  rw [q] at e
  exact h.get (i:=j) e
end
end PL
namespace PL
open PySem PySem.Spec PyProof.Rows L2

mutual
def toD:PV→Option PyData
 | .non => some .none
 | .bl b => some (.bool b)
 | .int i => some (.int i)
 | .str x => some (.str x)
 | .tup xs => (toDL xs).map .tuple
 | .fls xs => (toDL xs).map .list
 | .loc _ => none
 | .fn _ _ _ => none
def toDL:List PV→Option (List PyData)
 | [] => some []
 | x :: xs => (toD x).bind fun d => (toDL xs).map fun ds => d :: ds
end
def toDS (S:Sto):PV→Option PyData
 | .loc l => match S[l]? with | some (.lst xs) => (toDL xs).map .list | _ => none
 | p => toD p
section
variable {K:PySem.W.Frag} {mg:Str→Option Value} {ι : List Addr} {H:Hp}
mutual
theorem toD_dp:∀ (p:PV) (d:PyData) (v:V),toD p = some d→Rp K ι H p v→Dp K H v d
 | .non,d,v,h,r => by cases h; cases (show v = _ from r); exact .non
 | .bl b,d,v,h,r => by cases h; cases (show v = _ from r); exact .bl b
 | .int b,d,v,h,r => by cases h; cases (show v = _ from r); exact .int b
 | .str b,d,v,h,r => by cases h; cases (show v = _ from r); exact .str b
 | .tup xs,d,v,h,r => by
  obtain ⟨a,vs,rfl,h1,h2⟩:=r
  unfold toD at h
  cases q:toDL xs with
  | none => rw [q] at h; cases h
  | some ds =>
   rw [q] at h
   cases h
   exact .tup h1.seq (toDL_dp xs ds vs q h2)
 | .fls xs,d,v,h,r => by
  obtain ⟨a,vs,rfl,h1,h2⟩:=r
  unfold toD at h
  cases q:toDL xs with
  | none => rw [q] at h; cases h
  | some ds =>
   rw [q] at h
   cases h
   exact .lst h1.seq (toDL_dp xs ds vs q h2)
 | .loc _,d,v,h,r => by cases h
 | .fn _ _ _,d,v,h,r => by cases h
theorem toDL_dp:∀ (xs:List PV) (ds:List PyData) (vs:List V),toDL xs = some ds→RpL K ι H xs vs→DpAll K H vs ds
 | [],ds,vs,h,r => by cases h; cases (show vs = _ from r); exact .nil
 | x :: xs,ds,vs,h,r => by
  obtain ⟨v,w,rfl,h1,h2⟩:=r
  unfold toDL at h
  cases q:toD x with
  | none => rw [q] at h; cases h
  | some d =>
   cases q2:toDL xs with
   | none => rw [q,q2] at h; cases h
   | some es =>
    rw [q,q2] at h
    cases h
    exact .cons (toD_dp x d v q h1) (toDL_dp xs es w q2 h2)
end
theorem toDS_dp {S:Sto} (r0:RSt ΩP Ωw K mg ι H S):∀ (p:PV) (d:PyData) (v:V),toDS S p = some d→Rp K ι H p v→Dp K H v d:=by
 intro p d v h r
 cases p with
 | loc l =>
  obtain ⟨a,rfl,h1⟩:=r
  unfold toDS at h
  simp only at h
  cases hS:S[l]? with
  | none => rw [hS] at h; cases h
  | some o =>
   rw [hS] at h
   cases o with
   | lst xs =>
    obtain ⟨vs,h3,h4⟩:=r0.obj l a _ h1 hS
    cases q:toDL xs with
    | none => simp only [q] at h; cases h
    | some ds =>
     simp only [q] at h
     cases h
     exact .lst (.of h3) (toDL_dp xs ds vs q h4)
   | dct _ => cases h
   | ins _ _ => cases h
   | dtp _ => cases h
   | tab _ _ => cases h
   | exc _ _ => cases h
   | ndt _ => cases h
 | _ => exact toD_dp _ d v h r
end

def intOp (f:Int→Int→Option PV):Op2:=fun p q S => match p,q with
 | .int i,.int j => (f i j).map fun v => (v,S)
 | _,_ => none
section
variable {X:Cx}
theorem op_intOp {g:Value→Value→Sem Value} {f:Int→Int→Option PV} {r:R2} (ho:OpR X g r) (h:∀ i j v H Q,f i j = some v→(∃ w,(∀ ι H',Rp X.K ι H' v w)∧(Q w H→r (.int i) (.int j) H Q))):OpR X g (gOp X (intOp f)):=by
 intro pins s σ H x y v u Q I rx ry ⟨ι,S,p,q,z,S',rs,rp,rq,hf,k⟩
 unfold intOp at hf
 split at hf
 ·rename_i i j
  cases hz:f i j with
  | none => rw [hz] at hf; cases hf
  | some w =>
   rw [hz] at hf
   cases hf
   cases (show x = _ from rp)
   cases (show y = _ from rq)
   obtain ⟨w',h1,h2⟩:=h i j _ H Q hz
   exact ho pins s σ H _ _ v u Q I rx ry (h2 (k ι H w' .refl rs (h1 _ _)))
 ·cases hf
def subP:Op2:=intOp fun i j => some (.int (i - j))
def mulP:Op2:=fun p q S => match p,q with
 | .int i,.int j => if (-(2 ^ 64) < i∧i < 2 ^ 64) ∨ (-(2 ^ 64) < j∧j < 2 ^ 64) then some (.int (i * j),S) else none
 | .str x,.int n => if 0 ≤ n∧n ≤ 1000000∧x.length ≤ 16777216∧x.length * n.toNat ≤ 16777216 then some (.str (Txt.mul x n),S) else none
 | _,_ => none
theorem mulOk_of {x:Str} {n:Int} (h0:0 ≤ n) (h1:n ≤ 1000000) (h2:x.length ≤ 16777216) (h3:x.length * n.toNat ≤ 16777216):MulOk x n:=by
 refine ⟨by simp; omega,fun hn _ => ?_,fun _ _ => ?_⟩
 ·have:(16777216:Int) ≤ (2 ^ 63 - 1) / n:=by
   rw [Int.le_ediv_iff_mul_le (by omega)]
   omega
  omega
 ·simp [Builtin.Str.tooLong,sizeLine_eq]; exact h3
def fdivP:Op2:=intOp fun i j => if 0 < j∧j.natAbs < 1267650600228229401496703205376 then some (.int (i / j)) else none
def modP:Op2:=intOp fun i j => if 0 < j then some (.int (i % j)) else none
def powP:Op2:=intOp fun i j => if 0 ≤ j∧j ≤ 1000000∧i.natAbs < 2 ^ 64 then some (.int (i ^ j.toNat)) else none
theorem og_sub:OpR X (binaryOp .Sub) (gOp X subP):=op_intOp op_sub fun i j v H Q h => by cases h; exact ⟨_,fun _ _ => rfl,fun q => ⟨i,j,rfl,rfl,q⟩⟩
theorem og_mul:OpR X (binaryOp .Mult) (gOp X mulP):=by
 intro pins s σ H x y v u Q I rx ry ⟨ι,S,p,q,z,S',rs,rp,rq,hf,k⟩
 unfold mulP at hf
 split at hf
 ·split at hf
  ·rename_i c
   cases hf
   cases (show x = _ from rp)
   cases (show y = _ from rq)
   exact op_mul pins s σ H _ _ v u Q I rx ry ⟨_,_,rfl,rfl,c,k ι H _ .refl rs rfl⟩
  ·cases hf
 ·split at hf
  ·rename_i x n c
   cases hf
   cases (show _ = _ from rp)
   cases (show y = _ from rq)
   obtain ⟨t,rfl⟩:=rx
   obtain ⟨t',rfl⟩:=ry
   exact SB.mul (mulOk_of c.1 c.2.1 c.2.2.1 c.2.2.2) fun t' tk => ⟨.str (Txt.mul x n),H,I.tok _,⟨_,rfl⟩,k ι H _ .refl rs rfl⟩
  ·cases hf
 ·cases hf
theorem og_fdiv:OpR X (binaryOp .FloorDiv) (gOp X fdivP):=op_intOp op_fdivW fun i j v H Q h => by
 split at h
 ·rename_i c
  cases h
  exact ⟨_,fun _ _ => rfl,fun q => ⟨i,j,rfl,rfl,wide_div (b:=100) c.1 c.2 (by decide) (by decide),q⟩⟩
 ·cases h
theorem og_mod:OpR X (binaryOp .Mod) (gOp X modP):=op_intOp op_mod fun i j v H Q h => by
 split at h
 ·rename_i c
  cases h
  exact ⟨_,fun _ _ => rfl,fun q => ⟨i,j,rfl,rfl,c,q⟩⟩
 ·cases h
theorem og_pow:OpR X (binaryOp .Pow) (gOp X powP):=op_intOp op_pow fun i j v H Q h => by
 split at h
 ·rename_i c
  cases h
  exact ⟨_,fun _ _ => rfl,fun q => ⟨i,j,rfl,rfl,c,q⟩⟩
 ·cases h
def addP:Op2:=fun p q S => match p,q with
 | .int i,.int j => some (.int (i + j),S)
 | .str a,.str b => if a.length + b.length ≤ 16777216 then some (.str (a ++ b),S) else none
 | .tup a,.tup b => if a.length + b.length ≤ 16777216 then some (.tup (a ++ b),S) else none
 | .loc l,.loc k => match S[l]?,S[k]? with
  | some (.lst a),some (.lst b) => if a.length + b.length ≤ 16777216 then some (.loc S.length,S ++ [.lst (a ++ b)]) else none
  | _,_ => none
 | _,_ => none
theorem RpL.nil_iff {K:PySem.W.Frag} {ι : List Addr} {H:Hp} {xs:List PV} {vs:List V} (h:RpL K ι H xs vs):vs = []↔xs = []:=by
 have:=h.length
 cases xs <;> cases vs <;> simp_all
theorem og_add:OpR X (binaryOp .Add) (gOp X addP):=by
 intro pins s σ H x y v u Q I rx ry ⟨ι,S,p,q,z,S',rs,rp,rq,hf,k⟩
 unfold addP at hf
 split at hf
 ·cases hf
  cases (show x = _ from rp)
  cases (show y = _ from rq)
  exact op_add pins s σ H _ _ v u Q I rx ry ⟨_,_,rfl,rfl,k ι H _ .refl rs rfl⟩
 ·split at hf
  ·rename_i hl
   cases hf
   cases (show x = _ from rp)
   cases (show y = _ from rq)
   exact op_add_str pins s σ H _ _ v u Q I rx ry ⟨_,_,rfl,rfl,by rw [sizeLine_eq]; exact hl,k ι H _ .refl rs rfl⟩
  ·cases hf
 ·split at hf
  ·rename_i a b hl
   cases hf
   obtain ⟨aa,vs,rfl,h1,h2⟩:=rp
   obtain ⟨bb,ws,rfl,h3,h4⟩:=rq
   refine PLz.op_catZ pins s σ H _ _ v u Q I rx ry ⟨aa,bb,vs,ws,rfl,rfl,h1.seq,h3.seq,by rw [← h2.length,← h4.length,sizeLine_eq]; exact hl,fun e => ?_,fun _ e => ?_,fun _ _ p hp o ho => ?_⟩
   ·have ea:a = []:=h2.nil_iff.mp e
    subst ea
    exact k ι H _ .refl rs ⟨bb,ws,rfl,h3,h4⟩
   ·have ea:b = []:=h4.nil_iff.mp e
    subst ea
    exact k ι H _ .refl rs ⟨aa,vs,rfl,h1,by rw [List.append_nil]; exact h2⟩
   ·obtain ⟨E,r2⟩:=rs.tup (ho:=.frz o (.tup (vs ++ ws))) hp
    exact k _ _ _ E r2 ⟨p,_,rfl,.inl ⟨o,upd_same,ho⟩,(h2.app h4).up E⟩
  ·cases hf
 ·split at hf
  ·rename_i a b e1 e2
   split at hf
   ·rename_i hl
    cases hf
    obtain ⟨aa,rfl,h1⟩:=rp
    obtain ⟨bb,rfl,h2⟩:=rq
    obtain ⟨vs,h3,h4⟩:=rs.obj _ aa _ h1 e1
    obtain ⟨ws,h5,h6⟩:=rs.obj _ bb _ h2 e2
    refine op_cat pins s σ H _ _ v u Q I rx ry ⟨aa,bb,vs,ws,rfl,rfl,h3,h5,by rw [← h4.length,← h6.length,sizeLine_eq]; exact hl,fun p hp => ?_⟩
    obtain ⟨E,r2,q2⟩:=rs.new_lst hp (h4.app h6)
    exact k _ _ _ E r2 q2
   ·cases hf
  ·cases hf
 ·cases hf
def cmpI (f:Int→Int→Bool):Op2:=intOp fun i j => some (.bl (f i j))
def ltP:Op2:=cmpI fun i j => decide (i < j)
def leP:Op2:=cmpI fun i j => decide (i ≤ j)
def gtP:Op2:=cmpI fun i j => decide (j < i)
def geP:Op2:=cmpI fun i j => decide (j ≤ i)
theorem og_lt:OpR X (compareOp .Lt) (gOp X ltP):=op_intOp op_lt fun i j v H Q h => by cases h; exact ⟨_,fun _ _ => rfl,fun q => ⟨i,j,rfl,rfl,q⟩⟩
theorem og_le:OpR X (compareOp .LtE) (gOp X leP):=op_intOp op_le fun i j v H Q h => by cases h; exact ⟨_,fun _ _ => rfl,fun q => ⟨i,j,rfl,rfl,q⟩⟩
theorem og_gt:OpR X (compareOp .Gt) (gOp X gtP):=op_intOp op_gt fun i j v H Q h => by cases h; exact ⟨_,fun _ _ => rfl,fun q => ⟨i,j,rfl,rfl,q⟩⟩
theorem og_ge:OpR X (compareOp .GtE) (gOp X geP):=op_intOp op_ge fun i j v H Q h => by cases h; exact ⟨_,fun _ _ => rfl,fun q => ⟨i,j,rfl,rfl,q⟩⟩
def eqB (p q:PV) (S:Sto):Option Bool:=match p,q with
 | .int i,.int j => some (decide (i = j))
 | .str i,.str j => some (decide (i = j))
 | .bl i,.bl j => some (decide (i = j))
 | p,q => match toDS S p,toDS S q with
  | some d,some e => if SeqAt.shaped d = true∧SeqAt.shaped e = true then some (PyData.eqv d e) else none
  | _,_ => none
def eqP:Op2:=fun p q S => (eqB p q S).map fun b => (.bl b,S)
def neP:Op2:=fun p q S => (eqB p q S).map fun b => (.bl (!b),S)
theorem eqB_cases {p q:PV} {S:Sto} {b:Bool} (h:eqB p q S = some b) :
  (∃ i j,p = .int i∧q = .int j∧b = decide (i = j)) ∨ (∃ i j,p = .str i∧q = .str j∧b = decide (i = j)) ∨ (∃ i j,p = .bl i∧q = .bl j∧b = decide (i = j)) ∨
  ∃ d e,toDS S p = some d∧toDS S q = some e∧SeqAt.shaped d = true∧SeqAt.shaped e = true∧b = PyData.eqv d e:=by
 unfold eqB at h
 split at h
 ·cases h; exact .inl ⟨_,_,rfl,rfl,rfl⟩
 ·cases h; exact .inr (.inl ⟨_,_,rfl,rfl,rfl⟩)
 ·cases h; exact .inr (.inr (.inl ⟨_,_,rfl,rfl,rfl⟩))
 ·split at h
  ·rename_i d e h1 h2
   split at h
   ·rename_i c
    cases h
    exact .inr (.inr (.inr ⟨d,e,h1,h2,c.1,c.2,rfl⟩))
   ·cases h
  ·cases h
theorem dec_i {i j:Int}:decide (V.int i = V.int j) = decide (i = j):=by by_cases h:i = j <;> simp [h]
theorem dec_s {i j:Str}:decide (V.str i = V.str j) = decide (i = j):=by by_cases h:i = j <;> simp [h]
theorem dec_b {i j:Bool}:decide (V.bl i = V.bl j) = decide (i = j):=by by_cases h:i = j <;> simp [h]
theorem og_eq (hu:X.A.units + 64 < cLine):OpR X (compareOp .Eq) (gOp X eqP):=by
 intro pins s σ H x y v u Q I rx ry ⟨ι,S,p,q,z,S',rs,rp,rq,hf,k⟩
 unfold eqP at hf
 cases hb:eqB p q S with
 | none => rw [hb] at hf; cases hf
 | some b =>
  rw [hb] at hf
  cases hf
  have fin:=k ι H (.bl b) .refl rs rfl
  rcases eqB_cases hb with ⟨i,j,rfl,rfl,rfl⟩ | ⟨i,j,rfl,rfl,rfl⟩ | ⟨i,j,rfl,rfl,rfl⟩ | ⟨d,e,h1,h2,h3,h4,rfl⟩
  ·cases (show x = _ from rp); cases (show y = _ from rq)
   exact op_eq pins s σ H _ _ v u Q I rx ry ⟨rfl,by rw [dec_i]; exact fin⟩
  ·cases (show x = _ from rp); cases (show y = _ from rq)
   exact op_eq pins s σ H _ _ v u Q I rx ry ⟨rfl,by rw [dec_s]; exact fin⟩
  ·cases (show x = _ from rp); cases (show y = _ from rq)
   exact op_eq pins s σ H _ _ v u Q I rx ry ⟨rfl,by rw [dec_b]; exact fin⟩
  ·exact op_eqD hu pins s σ H _ _ v u Q I rx ry ⟨d,e,toDS_dp rs p d x h1 rp,toDS_dp rs q e y h2 rq,h3,h4,fin⟩
theorem og_ne (hu:X.A.units + 64 < cLine):OpR X (compareOp .NotEq) (gOp X neP):=by
 intro pins s σ H x y v u Q I rx ry ⟨ι,S,p,q,z,S',rs,rp,rq,hf,k⟩
 unfold neP at hf
 cases hb:eqB p q S with
 | none => rw [hb] at hf; cases hf
 | some b =>
  rw [hb] at hf
  cases hf
  have fin:=k ι H (.bl (!b)) .refl rs rfl
  rcases eqB_cases hb with ⟨i,j,rfl,rfl,rfl⟩ | ⟨i,j,rfl,rfl,rfl⟩ | ⟨i,j,rfl,rfl,rfl⟩ | ⟨d,e,h1,h2,h3,h4,rfl⟩
  ·cases (show x = _ from rp); cases (show y = _ from rq)
   exact op_ne pins s σ H _ _ v u Q I rx ry ⟨rfl,by rw [dec_i]; exact fin⟩
  ·cases (show x = _ from rp); cases (show y = _ from rq)
   exact op_ne pins s σ H _ _ v u Q I rx ry ⟨rfl,by rw [dec_s]; exact fin⟩
  ·cases (show x = _ from rp); cases (show y = _ from rq)
   exact op_ne pins s σ H _ _ v u Q I rx ry ⟨rfl,by rw [dec_b]; exact fin⟩
  ·exact op_neD hu pins s σ H _ _ v u Q I rx ry ⟨d,e,toDS_dp rs p d x h1 rp,toDS_dp rs q e y h2 rq,h3,h4,fin⟩
def valP (kvs:List (Key × PV)) (k:Key):Option PV:=(kvs.find? fun kv => decide (kv.1 = k)).map (·.2)
def putP (kvs:List (Key × PV)) (k:Key) (v:PV):List (Key × PV) :=
 if (kvs.any fun kv => decide (kv.1 = k)) = true then kvs.map (fun kv => if kv.1 = k then (kv.1,v) else kv) else kvs ++ [(k,v)]
theorem RpF.val {K:PySem.W.Frag} {ι : List Addr} {H:Hp} {k:Key}:∀ {kvs:List (Key × PV)} {ws:List (Key × V)},RpF K ι H kvs ws→(∀ x,valP kvs k = some x→∃ v,valV ws k = some v∧Rp K ι H x v)∧(valP kvs k = none→valV ws k = none)
 | [],_,h => by cases (show _ = _ from h); exact ⟨fun x e => (by cases e),fun _ => rfl⟩
 | (k0,x) :: r,_,h => by
  obtain ⟨v,w,rfl,h1,h2⟩:=h
  obtain ⟨i1,i2⟩:=RpF.val (k:=k) h2
  unfold valP valV at *
  by_cases e:k0 = k
  ·simp only [List.find?_cons,e,decide_true]
   exact ⟨fun y q => (by cases q; exact ⟨v,rfl,h1⟩),fun q => (by cases q)⟩
  ·simp only [List.find?_cons,e,decide_false]
   exact ⟨i1,i2⟩
theorem RpF.any {K:PySem.W.Frag} {ι : List Addr} {H:Hp} {k:Key}:∀ {kvs:List (Key × PV)} {ws:List (Key × V)},RpF K ι H kvs ws→(kvs.any fun kv => decide (kv.1 = k)) = (ws.any fun kv => decide (kv.1 = k))
 | [],_,h => by cases (show _ = _ from h); rfl
 | (k0,x) :: r,_,h => by
  obtain ⟨v,w,rfl,h1,h2⟩:=h
  rw [List.any_cons,List.any_cons,RpF.any h2]
theorem RpF.app {K:PySem.W.Frag} {ι : List Addr} {H:Hp} {κ : Type}:∀ {kvs kvs':List (κ × PV)} {ws ws':List (κ × V)},RpF K ι H kvs ws→RpF K ι H kvs' ws'→RpF K ι H (kvs ++ kvs') (ws ++ ws')
 | [],_,_,_,h,h' => by cases (show _ = _ from h); exact h'
 | (k0,x) :: r,_,_,_,h,h' => by
  obtain ⟨v,w,rfl,h1,h2⟩:=h
  exact ⟨v,_,rfl,h1,RpF.app h2 h'⟩
theorem RpF.mapPut {K:PySem.W.Frag} {ι : List Addr} {H:Hp} {k:Key} {y:PV} {z:V} (hy:Rp K ι H y z):∀ {kvs:List (Key × PV)} {ws:List (Key × V)},RpF K ι H kvs ws →
  RpF K ι H (kvs.map (fun kv => if kv.1 = k then (kv.1,y) else kv)) (ws.map (fun kv => if kv.1 = k then (kv.1,z) else kv))
 | [],_,h => by cases (show _ = _ from h); rfl
 | (k0,x) :: r,_,h => by
  obtain ⟨v,w,rfl,h1,h2⟩:=h
  rw [List.map_cons,List.map_cons]
  by_cases e:k0 = k
  ·simp only [e,if_true]; exact ⟨z,_,rfl,hy,RpF.mapPut hy h2⟩
  ·simp only [e,if_false]; exact ⟨v,_,rfl,h1,RpF.mapPut hy h2⟩
theorem RpF.put {K:PySem.W.Frag} {ι : List Addr} {H:Hp} {k:Key} {y:PV} {z:V} {kvs:List (Key × PV)} {ws:List (Key × V)} (h:RpF K ι H kvs ws) (hy:Rp K ι H y z):RpF K ι H (putP kvs k y) (putK ws k z):=by
 unfold putP putK
 rw [h.any]
 split
 ·exact h.mapPut hy
 ·exact h.app ⟨z,[],rfl,hy,rfl⟩
def flatP:PV→Bool
 | .non => true
 | .bl _ => true
 | .int _ => true
 | .str _ => true
 | _ => false
def flatW:PV→V
 | .non => .non
 | .bl b => .bl b
 | .int i => .int i
 | .str x => .str x
 | _ => .non
theorem rp_flat {K:PySem.W.Frag} {ι : List Addr} {H:Hp} {p:PV} {x:V} (h:Rp K ι H p x) (f:flatP p = true):x = flatW p∧flatV x = true:=by
 cases p with
 | non => cases (show x = _ from h); exact ⟨rfl,rfl⟩
 | bl b => cases (show x = _ from h); exact ⟨rfl,rfl⟩
 | int b => cases (show x = _ from h); exact ⟨rfl,rfl⟩
 | str b => cases (show x = _ from h); exact ⟨rfl,rfl⟩
 | _ => cases f
theorem rpl_flat {K:PySem.W.Frag} {ι : List Addr} {H:Hp}:∀ {xs:List PV} {vs:List V},RpL K ι H xs vs→xs.all flatP = true→vs = xs.map flatW∧vs.all flatV = true
 | [],_,h,_ => by cases (show _ = _ from h); exact ⟨rfl,rfl⟩
 | x :: xs,_,h,f => by
  obtain ⟨v,r,rfl,h1,h2⟩:=h
  rw [List.all_cons,Bool.and_eq_true] at f
  obtain ⟨e1,e2⟩:=rp_flat h1 f.1
  obtain ⟨e3,e4⟩:=rpl_flat h2 f.2
  exact ⟨by rw [List.map_cons,← e1,← e3],by rw [List.all_cons,e2,e4]; rfl⟩
def inItems (p:PV) (xs:List PV):Option Bool :=
 if flatP p = true∧xs.all flatP = true then some (inV (flatW p) (xs.map flatW)) else none
def inDeep (p:PV) (xs:List PV):Option Bool:=match toD p,toDL xs with
 | some d,some ds => if SeqAt.shaped d = true∧SeqAt.shaped (.list ds) = true then some (ds.any fun z => PyData.eqv z d) else none
 | _,_ => none
def inB (p q:PV) (S:Sto):Option Bool:=match q with
 | .str z => match p with
  | .str ⟨⟨[c]⟩⟩ => some (decide (c ∈ z.cps.toList))
  | .str x => some (!(Builtin.Str.occurrences z x 0 z.length 1).isEmpty)
  | _ => none
 | .tup xs => inItems p xs
 | .fls xs => inItems p xs
 | .loc l => match S[l]? with
  | some (.lst xs) => match inItems p xs with
   | some b => some b
   | none => inDeep p xs
  | some (.dct kvs) => match keyP p with
   | some k => some (valP kvs k).isSome
   | none => none
  | _ => none
 | _ => none
def inP:Op2:=fun p q S => (inB p q S).map fun b => (.bl b,S)
def notInP:Op2:=fun p q S => (inB p q S).map fun b => (.bl (!b),S)
theorem key_rp {K:PySem.W.Frag} {ι : List Addr} {H:Hp} {p:PV} {x:V} {k:Key} (h:Rp K ι H p x) (e:keyP p = some k):x = kV k:=by
 cases p with
 | int i => cases (show x = _ from h); cases e; rfl
 | str i => cases (show x = _ from h); cases e; rfl
 | _ => cases e
theorem og_inB (hu:X.A.units + 65 < cLine) {p q:PV} {S:Sto} {b:Bool} {ι : List Addr} {H:Hp} {x y:V} (rs:RSt X.prog X.w X.K X.mg ι H S) (rp:Rp X.K ι H p x) (rq:Rp X.K ι H q y) (h:inB p q S = some b) (neg:Bool)
  (pins:List (Addr × Obj)) (s:Shared) (σ : L2.St) (v u:Value) (Q:VK) (I:Inv X pins σ H s) (rx:RelV x v) (ry:RelV y u) (fin:Q (.bl (if neg then !b else b)) H) :
  wpAny (model X.prog X.w) X.A (compareOp (if neg then .NotIn else .In) v u) (EP X pins σ Q) X.xe s:=by
 have items:∀ (xs:List PV) (vs:List V) (a:Addr),y = .ref a→(SqL X.K H a vs ∨ SqT X.K H a vs)→RpL X.K ι H xs vs→inItems p xs = some b →
   wpAny (model X.prog X.w) X.A (compareOp (if neg then .NotIn else .In) v u) (EP X pins σ Q) X.xe s:=by
  intro xs vs a ey hq hr hi
  subst ey
  unfold inItems at hi
  split at hi
  ·rename_i c
   cases hi
   obtain ⟨e1,e2⟩:=rp_flat rp c.1
   obtain ⟨e3,e4⟩:=rpl_flat hr c.2
   subst e1; subst e3
   cases neg
   ·exact op_in_seq pins s σ H _ _ v u Q I rx ry ⟨a,_,rfl,hq,e2,e4,fin⟩
   ·exact op_notIn_seq pins s σ H _ _ v u Q I rx ry ⟨a,_,rfl,hq,e2,e4,fin⟩
  ·cases hi
 unfold inB at h
 split at h
 ·cases (show y = _ from rq)
  split at h
  ·cases h
   cases (show x = _ from rp)
   cases neg
   ·exact op_in_sign pins s σ H _ _ v u Q I rx ry ⟨_,_,rfl,rfl,fin⟩
   ·exact op_notIn_sign pins s σ H _ _ v u Q I rx ry ⟨_,_,rfl,rfl,fin⟩
  ·cases h
   cases (show x = _ from rp)
   cases neg
   ·exact op_in_str pins s σ H _ _ v u Q I rx ry ⟨_,_,rfl,rfl,fin⟩
   ·exact op_notin_str pins s σ H _ _ v u Q I rx ry ⟨_,_,rfl,rfl,fin⟩
  ·cases h
 ·obtain ⟨a,vs,ey,h1,h2⟩:=rq
  exact items _ vs a ey (.inr h1.seq) h2 h
 ·obtain ⟨a,vs,ey,h1,h2⟩:=rq
  exact items _ vs a ey (.inl h1.seq) h2 h
 ·obtain ⟨a,ey,h1⟩:=rq
  split at h
  ·rename_i xs eS
   obtain ⟨vs,h3,h4⟩:=rs.obj _ a _ h1 eS
   split at h
   ·rename_i b' hb'
    cases h
    exact items _ vs a ey (.inl (.of h3)) h4 hb'
   ·unfold inDeep at h
    split at h
    ·rename_i d ds e1 e2
     split at h
     ·rename_i c
      cases h
      subst ey
      have dx:=toD_dp p d x e1 rp
      have dy:Dp X.K H (.ref a) (.list ds):=.lst (.of h3) (toDL_dp xs ds vs e2 h4)
      cases neg
      ·exact op_inD hu pins s σ H _ _ v u Q I rx ry ⟨d,ds,dx,dy,c.1,c.2,fin⟩
      ·exact op_notInD hu pins s σ H _ _ v u Q I rx ry ⟨d,ds,dx,dy,c.1,c.2,fin⟩
     ·cases h
    ·cases h
  ·rename_i kvs eS
   obtain ⟨ws,h3,h4⟩:=rs.obj _ a _ h1 eS
   split at h
   ·rename_i k hk
    cases h
    subst ey
    cases key_rp rp hk
    obtain rfl:u = Value.ref a:=ry
    have e:(valP kvs k).isSome = (valV ws k).isSome:=by
     obtain ⟨i1,i2⟩:=RpF.val (k:=k) h4
     cases q:valP kvs k with
     | none => rw [i2 q]; rfl
     | some x => obtain ⟨v,e,_⟩:=i1 x q; rw [e]; rfl
    rw [e] at fin
    cases neg
    ·exact d_in (by omega) I (DGet.k h3) rx fun s' I' => ⟨.bl _,H,I',rfl,fin⟩
    ·exact d_notIn (by omega) I (DGet.k h3) rx fun s' I' => ⟨.bl _,H,I',rfl,fin⟩
   ·cases h
  ·cases h
 ·cases h
theorem og_in (hu:X.A.units + 65 < cLine):OpR X (compareOp .In) (gOp X inP):=by
 intro pins s σ H x y v u Q I rx ry ⟨ι,S,p,q,z,S',rs,rp,rq,hf,k⟩
 unfold inP at hf
 cases hb:inB p q S with
 | none => rw [hb] at hf; cases hf
 | some b =>
  rw [hb] at hf
  cases hf
  exact og_inB hu rs rp rq hb false pins s σ v u Q I rx ry (k ι H (.bl b) .refl rs rfl)
theorem og_notIn (hu:X.A.units + 65 < cLine):OpR X (compareOp .NotIn) (gOp X notInP):=by
 intro pins s σ H x y v u Q I rx ry ⟨ι,S,p,q,z,S',rs,rp,rq,hf,k⟩
 unfold notInP at hf
 cases hb:inB p q S with
 | none => rw [hb] at hf; cases hf
 | some b =>
  rw [hb] at hf
  cases hf
  exact og_inB hu rs rp rq hb true pins s σ v u Q I rx ry (k ι H (.bl (!b)) .refl rs rfl)
theorem og_ix:IxR X (gOp X getP):=by
 intro value slice pins s σ H x y v u Q I rx ry ⟨ι,S,p,q,z,S',rs,rp,rq,hf,k⟩ hs
 unfold getP at hf
 split at hf
 ·rename_i xs i
  cases ha:atI xs i with
  | none => rw [ha] at hf; cases hf
  | some w =>
   rw [ha] at hf
   cases hf
   obtain ⟨a,vs,rfl,h1,h2⟩:=rp
   cases (show y = _ from rq)
   obtain ⟨w',h3,h4⟩:=h2.at ha
   exact ix_tup value slice pins s σ H _ _ v u Q I rx ry ⟨a,vs,i,w',rfl,rfl,h1.seq,h3,k ι H _ .refl rs h4⟩ hs
 ·rename_i xs i
  cases ha:atI xs i with
  | none => rw [ha] at hf; cases hf
  | some w =>
   rw [ha] at hf
   cases hf
   obtain ⟨a,vs,rfl,h1,h2⟩:=rp
   cases (show y = _ from rq)
   obtain ⟨w',h3,h4⟩:=h2.at ha
   exact ix_list value slice pins s σ H _ _ v u Q I rx ry ⟨a,vs,i,w',rfl,rfl,h1.seq,h3,k ι H _ .refl rs h4⟩ hs
 ·rename_i xs i
  split at hf
  ·rename_i hl
   cases ha:atI xs.cps.toList i with
   | none => rw [ha] at hf; cases hf
   | some w =>
    rw [ha] at hf
    cases hf
    cases (show x = _ from rp)
    cases (show y = _ from rq)
    exact ix_str value slice pins s σ H _ _ v u Q I rx ry ⟨xs,i,w,rfl,rfl,by rw [sizeLine_eq]; exact hl,ha,k ι H _ .refl rs rfl⟩ hs
  ·cases hf
 ·split at hf
  ·rename_i xs i eS
   cases ha:atI xs i with
   | none => rw [ha] at hf; cases hf
   | some w =>
    rw [ha] at hf
    cases hf
    obtain ⟨a,rfl,h1⟩:=rp
    cases (show y = _ from rq)
    obtain ⟨vs,h2,h3⟩:=rs.obj _ a _ h1 eS
    obtain ⟨w',h4,h5⟩:=h3.at ha
    exact ix_list value slice pins s σ H _ _ v u Q I rx ry ⟨a,vs,i,w',rfl,rfl,.of h2,h4,k ι H _ .refl rs h5⟩ hs
  ·cases hf
 ·cases hf
theorem re_ix {W:WX} {a b:Expr} {ma mb:EM PV} {pos:Pos} (ha:RE X W a ma) (hb:RE X W b mb) (hs:PlainIx b:=by exact fun _ _ => rfl):RE X W (.Subscript a b pos) (binM getP ma mb) :=
 ⟨pe_weak (pe_ix og_ix ha.pe hb.pe hs) bin_read⟩
def dgetP:Op2:=fun p q S => match p with
 | .loc l => match S[l]?,keyP q with
  | some (.dct kvs),some k => (valP kvs k).map fun v => (v,S)
  | _,_ => none
 | _ => none
theorem re_dget {W:WX} {a b:Expr} {ma mb:EM PV} {pos:Pos} (hu:X.A.units + 1 < cLine) (ha:RE X W a ma) (hb:RE X W b mb) (hs:NoSl b:=by exact fun _ _ => rfl):RE X W (.Subscript a b pos) (binM dgetP ma mb):=by
 refine ⟨pe_weak (pe_dget hu ha.pe hb.pe hs) fun σ H Q h => gE_mono (bin_read σ H Q h) fun x H1 h1 => gE_mono h1 fun y H2 h2 => ?_⟩
 obtain ⟨ι,S,p,q,z,S',rs,rp,rq,hf,k⟩:=h2
 unfold dgetP at hf
 split at hf
 ·split at hf
  ·rename_i kvs kk eS ek
   cases hv:valP kvs kk with
   | none => rw [hv] at hf; cases hf
   | some w =>
    rw [hv] at hf
    cases hf
    obtain ⟨a,rfl,hι⟩:=rp
    obtain ⟨ws,h3,h4⟩:=rs.obj _ a _ hι eS
    cases key_rp rq ek
    obtain ⟨v,e1,e2⟩:=(RpF.val (k:=kk) h4).1 _ hv
    exact ⟨a,v,rfl,by rw [← e1]; exact DGet.k h3,k ι H2 v .refl rs e2⟩
  ·cases hf
 ·cases hf
end
end PL
namespace PL
open PySem PySem.Spec PyProof.Rows L2
section
variable {X:Cx} {W:WX} {a b c e o:Expr} {es rest:List Expr} {ma mb mc mo:EM PV} {tA tB':EM Bool} {mas:EM (List PV)} {pos apos cpos p2:Pos}
abbrev rO:RR (Option Int) (Option Int):=fun _ _ v x => v = x
structure RO (X:Cx) (W:WX) (e:Option Expr) (m:EM (Option Int)):Prop where
 po:L2.PO X e (gE X W rO m)
theorem po_weak {X:Cx} {e:Option Expr} {t t':TO} (h:L2.PO X e t) (w:∀ σ H Q,t' σ H Q→t σ H Q):L2.PO X e t':=⟨fun pins s σ H Q I hh => h.run pins s σ H Q I (w σ H Q hh)⟩
def oN:EM (Option Int):=fun _ S => .ok none S
def oS (m:EM PV):EM (Option Int):=fun τ S => bnd (m τ S) fun p S1 => match p with | .int i => .ok (some i) S1 | _ => .bad
theorem ro_none:RO X W none oN:=⟨po_weak po_none fun σ H Q h => by
 obtain ⟨ι,τ,S,r,ρ,pk⟩:=h
 exact pk _ _ _ .refl r rfl⟩
theorem ro_some (h:RE X W e ma):RO X W (some e) (oS ma):=⟨po_weak (po_some h.pe) fun σ H Q h => by
 obtain ⟨ι,τ,S,r,ρ,pk⟩:=h
 refine ⟨ι,τ,S,r,ρ,pk.next.mono ?_⟩
 rintro x H1 ⟨p,ι1,S1,e1,r1,q1,pk1⟩
 cases p with
 | int i => exact ⟨i,q1,pk1 _ _ _ .refl r1 rfl⟩
 | _ => exact pk1.elim⟩
def cutP (xs:List PV) (lo hi:Option Int):List PV:=(xs.drop (HT.sIx xs.length 0 lo)).take (HT.sIx xs.length xs.length hi - HT.sIx xs.length 0 lo)
theorem RpL.cut {K:PySem.W.Frag} {ι : List Addr} {H:Hp} {xs:List PV} {vs:List V} (h:RpL K ι H xs vs) (lo hi:Option Int):RpL K ι H (cutP xs lo hi) (cutV vs lo hi):=by
 unfold cutP cutV
 rw [h.length]
 exact (h.drop _).take _
def slP (p:PV) (lo hi:Option Int) (S:Sto):Option (PV × Sto):=match p with
 | .tup xs => some (.tup (cutP xs lo hi),S)
 | .fls xs => some (.loc S.length,S ++ [.lst (cutP xs lo hi)])
 | .str x => if x.length ≤ 16777216 then some (.str (cutS x lo hi),S) else none
 | .loc l => match S[l]? with | some (.lst xs) => some (.loc S.length,S ++ [.lst (cutP xs lo hi)]) | _ => none
 | _ => none
def slM (m:EM PV) (lo hi:EM (Option Int)):EM PV:=fun τ S => bnd (m τ S) fun p S1 => bnd (lo τ S1) fun l S2 => bnd (hi τ S2) fun h S3 => lift (slP p l h S3)
theorem cut_whole {α : Type} (xs:List α) (i j:Nat) (h1:i = 0) (h2:j = xs.length):(xs.drop i).take (j - i) = xs:=by subst h1; subst h2; simp
theorem re_slice {lo hi:Option Expr} {ml mh:EM (Option Int)} (he:RE X W e ma) (hl:RO X W lo ml) (hu:RO X W hi mh):RE X W (.Subscript e (.Slice lo hi none p2) pos) (slM ma ml mh):=by
 refine ⟨pe_weak (pe_slice ((sl_list.or PLz.sl_tupZ).or sl_str) he.pe hl.po hu.po) fun σ H Q h => ?_⟩
 obtain ⟨ι,τ,S,r,ρ,pk⟩:=h
 refine ⟨ι,τ,S,r,ρ,pk.next.mono ?_⟩
 rintro x H1 ⟨p,ι1,S1,e1,r1,q1,pk1⟩
 refine ⟨ι1,τ,S1,r1,ρ.up e1,pk1.next.mono ?_⟩
 rintro l H2 ⟨l',ι2,S2,e2,r2,q2,pk2⟩
 refine ⟨ι2,τ,S2,r2,(ρ.up e1).up e2,pk2.next.mono ?_⟩
 rintro u H3 ⟨u',ι3,S3,e3,r3,q3,pk3⟩
 have ql:l' = l:=q2
 subst ql
 have qu:u' = u:=q3
 subst qu
 have q1:=(q1.up e2).up e3
 obtain ⟨v,S',hf,k⟩:=pk_lift pk3
 unfold slP at hf
 split at hf
 ·cases hf
  obtain ⟨a,vs,rfl,h1,h2⟩:=q1
  refine .inl (.inr ⟨a,vs,rfl,h1.seq,fun hw => ?_,fun hw p hp o ho => ?_⟩)
  ·refine k _ _ _ .refl r3 ⟨a,vs,rfl,h1,?_⟩
   have e:=h2.cut l' u'
   have e2:cutV vs l' u' = vs:=cut_whole vs _ _ hw.1 hw.2
   rw [e2] at e
   exact e
  ·obtain ⟨E,r4⟩:=r3.tup (ho:=.frz o (.tup (cutV vs l' u'))) hp
   exact k _ _ _ E r4 ⟨p,_,rfl,.inl ⟨o,upd_same,ho⟩,(h2.cut l' u').up E⟩
 ·cases hf
  obtain ⟨a,vs,rfl,h1,h2⟩:=q1
  refine .inl (.inl ⟨a,vs,rfl,h1.seq,fun p hp => ?_⟩)
  obtain ⟨E,r4,q4⟩:=r3.new_lst hp (h2.cut l' u')
  exact k _ _ _ E r4 q4
 ·split at hf
  ·rename_i hl
   cases hf
   exact .inr ⟨_,q1,by rw [sizeLine_eq]; exact hl,k _ _ _ .refl r3 rfl⟩
  ·cases hf
 ·split at hf
  ·rename_i xs eS
   cases hf
   obtain ⟨a,rfl,h1⟩:=q1
   obtain ⟨vs,h2,h3⟩:=r3.obj _ a _ h1 eS
   refine .inl (.inl ⟨a,vs,rfl,.of h2,fun p hp => ?_⟩)
   obtain ⟨E,r4,q4⟩:=r3.new_lst hp (h3.cut l' u')
   exact k _ _ _ E r4 q4
  ·cases hf
 ·cases hf
def revP (p:PV) (S:Sto):Option (PV × Sto):=match p with
 | .fls xs => some (.loc S.length,S ++ [.lst xs.reverse])
 | .loc l => match S[l]? with | some (.lst xs) => some (.loc S.length,S ++ [.lst xs.reverse]) | _ => none
 | _ => none
def unM (f:PV→Sto→Option (PV × Sto)) (m:EM PV):EM PV:=fun τ S => bnd (m τ S) fun p S1 => lift (f p S1)
def negP (p:PV) (S:Sto):Option (PV × Sto):=match p with | .int i => some (.int (-i),S) | _ => none
theorem re_neg (he:RE X W e ma):RE X W (.UnaryOp .USub e pos) (unM negP ma):=by
 refine ⟨pe_weak (pe_un un_neg he.pe) fun σ H Q h => ?_⟩
 obtain ⟨ι,τ,S,r,ρ,pk⟩:=h
 refine ⟨ι,τ,S,r,ρ,pk.next.mono ?_⟩
 rintro x H1 ⟨p,ι1,S1,e1,r1,q1,pk1⟩
 cases p with
 | int i => exact ⟨i,q1,pk1 _ _ _ .refl r1 rfl⟩
 | _ => exact pk1.elim

abbrev OpN:=List PV→Sto→Option (PV × Sto)
def gCall (X:Cx) (f:OpN):List V→Hp→VK→Prop:=fun xs H Q => ∃ ι S ps v S',RSt X.prog X.w X.K X.mg ι H S∧RpL X.K ι H ps xs∧f ps S = some (v,S') ∧
 ∀ ι' H' z,Ext ι H ι' H'→RSt X.prog X.w X.K X.mg ι' H' S'→Rp X.K ι' H' v z→Q z H'
def callM (f:OpN) (ms:EM (List PV)):EM PV:=fun τ S => bnd (ms τ S) fun ps S1 => lift (f ps S1)
theorem call_read {f:OpN} (σ : L2.St) (H:Hp) (Q:VK) (h:gE X W (rV X) (callM f mas) σ H Q):tCB (gCall X f) (gE X W (rL X) mas) σ H Q:=by
 obtain ⟨ι,τ,S,r,ρ,pk⟩:=h
 refine ⟨ι,τ,S,r,ρ,pk.next.mono ?_⟩
 rintro xs H1 ⟨ps,ι1,S1,e1,r1,q1,pk1⟩
 obtain ⟨v,S',hf,k⟩:=pk_lift pk1
 exact ⟨ι1,S1,ps,v,S',r1,q1,hf,k⟩
theorem re_callB {x:Str} {p:Pos} {id:String} {f:OpN} (hc:CallR X (.builtin id) (gCall X f)) (hg:Gl X x) (hm:X.mg x = none) (hv:bootBuiltins x = some (.builtin id)) (ha:RA X W (e :: es) mas) (hn:x ≠ "__name__" := by decide) (hdb:(x == ("__debug__" : Str)) = false:=by decide)
  (he:starEach (e :: es) X.env = (false,eval e X.env) :: starEach es X.env:=by rfl) (hpl:(backTo pos (starEach es X.env)).any (·.1) = false:=by rfl):RE X W (.Call (.Name x p) (e :: es) [] pos) (callM f mas) :=
 ⟨pe_weak (pe_callB hc hg hm hv ha.pa hn hdb he hpl) call_read⟩
theorem re_callTy {x:Str} {p:Pos} {T:String} {f:OpN} (hc:CallR X (.type T) (gCall X f)) (hg:Gl X x) (hm:X.mg x = none) (hv:bootBuiltins x = some (.type T)) (ha:RA X W (e :: es) mas) (hn:x ≠ "__name__" := by decide) (hdb:(x == ("__debug__" : Str)) = false:=by decide)
  (he:starEach (e :: es) X.env = (false,eval e X.env) :: starEach es X.env:=by rfl) (hpl:(backTo pos (starEach es X.env)).any (·.1) = false:=by rfl):RE X W (.Call (.Name x p) (e :: es) [] pos) (callM f mas) :=
 ⟨pe_weak (pe_callTy hc hg hm hv ha.pa hn hdb he hpl) call_read⟩
def on1 (f:PV→Sto→Option (PV × Sto)):OpN:=fun ps S => match ps with | [p] => f p S | _ => none
def on2 (f:PV→PV→Sto→Option (PV × Sto)):OpN:=fun ps S => match ps with | [p,q] => f p q S | _ => none
theorem rpl1 {K:PySem.W.Frag} {ι : List Addr} {H:Hp} {p:PV} {xs:List V} (h:RpL K ι H [p] xs):∃ x,xs = [x]∧Rp K ι H p x:=by
 obtain ⟨v,r,rfl,h1,h2⟩:=h
 cases (show r = _ from h2)
 exact ⟨v,rfl,h1⟩
theorem rpl2 {K:PySem.W.Frag} {ι : List Addr} {H:Hp} {p q:PV} {xs:List V} (h:RpL K ι H [p,q] xs):∃ x y,xs = [x,y]∧Rp K ι H p x∧Rp K ι H q y:=by
 obtain ⟨v,r,rfl,h1,h2⟩:=h
 obtain ⟨y,rfl,h3⟩:=rpl1 h2
 exact ⟨v,y,rfl,h1,h3⟩
theorem cr_on1 {g:Value} {f:PV→Sto→Option (PV × Sto)} (h:∀ (pins:List (Addr × Obj)) (s:Shared) (σ : L2.St) (H:Hp) (us:List Value) (Q:VK) (ι : List Addr) (S:Sto) (p:PV) (x:V) (v:PV) (S':Sto),Inv X pins σ H s→Vals [x] us→RSt X.prog X.w X.K X.mg ι H S→Rp X.K ι H p x→f p S = some (v,S') →
   (∀ ι' H' z,Ext ι H ι' H'→RSt X.prog X.w X.K X.mg ι' H' S'→Rp X.K ι' H' v z→Q z H')→wpAny (model X.prog X.w) X.A (call g us) (EP X pins σ Q) X.xe s):CallR X g (gCall X (on1 f)):=by
 intro pins s σ H xs us Q I r ⟨ι,S,ps,v,S',rs,rp,hf,k⟩
 unfold on1 at hf
 split at hf
 ·obtain ⟨x,rfl,h1⟩:=rpl1 rp
  exact h pins s σ H us Q ι S _ x v S' I r rs h1 hf k
 ·cases hf
def lenP (p:PV) (S:Sto):Option (PV × Sto):=match p with
 | .tup xs => some (.int xs.length,S)
 | .fls xs => some (.int xs.length,S)
 | .str x => if x.length ≤ 16777216 then some (.int x.length,S) else none
 | .loc l => match S[l]? with
  | some (.lst xs) => some (.int xs.length,S)
  | some (.dct kvs) => some (.int kvs.length,S)
  | _ => none
 | _ => none
theorem cr_len:CallR X (.builtin "len") (gCall X (on1 lenP)):=cr_on1 fun pins s σ H us Q ι S p x v S' I r rs rp hf k => by
 unfold lenP at hf
 split at hf
 ·cases hf
  obtain ⟨a,vs,rfl,h1,h2⟩:=rp
  exact call_len pins s σ H _ us Q I r ⟨_,_,rfl,.inr ⟨vs,h1.seq,rfl⟩,k _ _ _ .refl rs (by rw [h2.length]; rfl)⟩
 ·cases hf
  obtain ⟨a,vs,rfl,h1,h2⟩:=rp
  exact call_len pins s σ H _ us Q I r ⟨_,_,rfl,.inl ⟨vs,h1.seq,rfl⟩,k _ _ _ .refl rs (by rw [h2.length]; rfl)⟩
 ·split at hf
  ·rename_i hl
   cases hf
   cases (show x = _ from rp)
   exact call_len pins s σ H _ us Q I r ⟨_,_,rfl,⟨by rw [sizeLine_eq]; exact hl,rfl⟩,k _ _ _ .refl rs rfl⟩
  ·cases hf
 ·split at hf
  ·rename_i xs eS
   cases hf
   obtain ⟨a,rfl,h1⟩:=rp
   obtain ⟨vs,h2,h3⟩:=rs.obj _ a _ h1 eS
   exact call_len pins s σ H _ us Q I r ⟨_,_,rfl,.inl ⟨vs,.of h2,rfl⟩,k _ _ _ .refl rs (by rw [h3.length]; rfl)⟩
  ·rename_i xs eS
   cases hf
   obtain ⟨a,rfl,h1⟩:=rp
   obtain ⟨vs,h2,h3⟩:=rs.obj _ a _ h1 eS
   exact call_lenD pins s σ H _ us Q I r ⟨a,vs,rfl,h2,k _ _ _ .refl rs (by rw [h3.length]; rfl)⟩
  ·cases hf
 ·cases hf
def listP (p:PV) (S:Sto):Option (PV × Sto):=(itemsP p S).map fun xs => (.loc S.length,S ++ [.lst xs])
def tupleP (p:PV) (S:Sto):Option (PV × Sto):=(itemsP p S).map fun xs => (.tup xs,S)
theorem items_rp {ι : List Addr} {H:Hp} {S:Sto} {p:PV} {x:V} {xs:List PV} (rs:RSt X.prog X.w X.K X.mg ι H S) (rp:Rp X.K ι H p x) (h:itemsP p S = some xs) :
  ∃ a vs,x = .ref a∧RpL X.K ι H xs vs∧(SqL X.K H a vs ∨ (p = .tup xs∧SqT X.K H a vs)):=by
 unfold itemsP at h
 split at h
 ·cases h
  obtain ⟨a,vs,rfl,h1,h2⟩:=rp
  exact ⟨a,vs,rfl,h2,.inr ⟨rfl,h1.seq⟩⟩
 ·cases h
  obtain ⟨a,vs,rfl,h1,h2⟩:=rp
  exact ⟨a,vs,rfl,h2,.inl h1.seq⟩
 ·split at h
  ·rename_i eS
   cases h
   obtain ⟨a,rfl,h1⟩:=rp
   obtain ⟨vs,h2,h3⟩:=rs.obj _ a _ h1 eS
   exact ⟨a,vs,rfl,h3,.inl (.of h2)⟩
  ·cases h
 ·cases h
theorem cr_list:CallR X (.type "list") (gCall X (on1 listP)):=cr_on1 fun pins s σ H us Q ι S p x v S' I r rs rp hf k => by
 unfold listP at hf
 cases hi:itemsP p S with
 | none => rw [hi] at hf; cases hf
 | some xs =>
  rw [hi] at hf
  cases hf
  obtain ⟨a,vs,rfl,h1,h2⟩:=items_rp rs rp hi
  refine call_list_of pins s σ H _ us Q I r ⟨a,vs,rfl,h2.imp id (·.2),fun l hl => ?_⟩
  obtain ⟨E,r4,q4⟩:=rs.new_lst hl h1
  exact k _ _ _ E r4 q4
theorem cr_tuple:CallR X (.type "tuple") (gCall X (on1 tupleP)):=cr_on1 fun pins s σ H us Q ι S p x v S' I r rs rp hf k => by
 unfold tupleP at hf
 cases hi:itemsP p S with
 | none => rw [hi] at hf; cases hf
 | some xs =>
  rw [hi] at hf
  cases hf
  obtain ⟨a,vs,rfl,h1,h2⟩:=items_rp rs rp hi
  refine PLz.call_tupleZ pins s σ H _ us Q I r ⟨a,vs,rfl,?_⟩
  rcases h2 with h2 | ⟨rfl,h2⟩
  ·refine .inl ⟨h2,fun l hl o ho => ?_⟩
   obtain ⟨E,r4⟩:=rs.tup (ho:=.frz o (.tup vs)) hl
   exact k _ _ _ E r4 ⟨l,vs,rfl,.inl ⟨o,upd_same,ho⟩,h1.up E⟩
  ·exact .inr ⟨h2,k _ _ _ .refl rs rp⟩
def boolsP:List PV→Option (List Bool)
 | [] => some []
 | .bl b :: r => (boolsP r).map fun bs => b :: bs
 | _ => none
theorem bools_rp {K:PySem.W.Frag} {ι : List Addr} {H:Hp}:∀ {xs:List PV} {bs:List Bool} {vs:List V},RpL K ι H xs vs→boolsP xs = some bs→vs = bs.map V.bl
 | [],bs,_,h,e => by cases e; exact h
 | x :: xs,bs,_,h,e => by
  obtain ⟨v,r,rfl,h1,h2⟩:=h
  cases x with
  | bl b =>
   unfold boolsP at e
   cases q:boolsP xs with
   | none => rw [q] at e; cases e
   | some bs' =>
    rw [q] at e
    cases e
    cases (show v = _ from h1)
    rw [bools_rp h2 q]; rfl
  | _ => cases e
def allP (p:PV) (S:Sto):Option (PV × Sto):=match p with
 | .loc l => match S[l]? with | some (.lst xs) => (boolsP xs).map fun bs => (.bl (bs.all id),S) | _ => none
 | _ => none
theorem cr_allP (hc:X.calm = true):CallR X (.builtin "all") (gCall X (on1 allP)):=cr_on1 fun pins s σ H us Q ι S p x v S' I r rs rp hf k => by
 unfold allP at hf
 split at hf
 ·split at hf
  ·rename_i xs eS
   cases hb:boolsP xs with
   | none => rw [hb] at hf; cases hf
   | some bs =>
    rw [hb] at hf
    cases hf
    obtain ⟨a,rfl,h1⟩:=rp
    obtain ⟨vs,h2,h3⟩:=rs.obj _ a _ h1 eS
    have e:=bools_rp h3 hb
    subst e
    exact cr_all hc pins s σ H _ us Q I r ⟨a,bs,rfl,.of h2,k _ _ _ .refl rs rfl⟩
  ·cases hf
 ·cases hf
def intP (p:PV) (S:Sto):Option (PV × Sto):=match p with
 | .int i => some (.int i,S)
 | .bl k => some (.int (if k then 1 else 0),S)
 | _ => none
theorem cr_int:CallR X (.type "int") (gCall X (on1 intP)):=cr_on1 fun pins s σ H us Q ι S p x v S' I r rs rp hf k => by
 unfold intP at hf
 split at hf
 ·cases hf; cases (show x = _ from rp)
  exact call_int1 pins s σ H _ us Q I r (.inl ⟨_,rfl,k _ _ _ .refl rs rfl⟩)
 ·cases hf; cases (show x = _ from rp)
  exact call_int1 pins s σ H _ us Q I r (.inr ⟨_,rfl,k _ _ _ .refl rs rfl⟩)
 ·cases hf
def maxP (p q:PV) (S:Sto):Option (PV × Sto):=match p,q with | .int i,.int j => some (.int (if j > i then j else i),S) | _,_ => none
def minP (p q:PV) (S:Sto):Option (PV × Sto):=match p,q with | .int i,.int j => some (.int (if j < i then j else i),S) | _,_ => none
theorem cr_max2P (hc:X.calm = true):CallR X (.builtin "max") (gCall X (on2 maxP)):=by
 intro pins s σ H xs us Q I r ⟨ι,S,ps,v,S',rs,rp,hf,k⟩
 unfold on2 at hf
 split at hf
 ·obtain ⟨x,y,rfl,h1,h2⟩:=rpl2 rp
  unfold maxP at hf
  split at hf
  ·cases hf; cases (show x = _ from h1); cases (show y = _ from h2)
   exact call_max2 hc pins s σ H _ us Q I r ⟨_,_,rfl,k _ _ _ .refl rs rfl⟩
  ·cases hf
 ·cases hf
theorem cr_min2P (hc:X.calm = true):CallR X (.builtin "min") (gCall X (on2 minP)):=by
 intro pins s σ H xs us Q I r ⟨ι,S,ps,v,S',rs,rp,hf,k⟩
 unfold on2 at hf
 split at hf
 ·obtain ⟨x,y,rfl,h1,h2⟩:=rpl2 rp
  unfold minP at hf
  split at hf
  ·cases hf; cases (show x = _ from h1); cases (show y = _ from h2)
   exact call_min2 hc pins s σ H _ us Q I r ⟨_,_,rfl,k _ _ _ .refl rs rfl⟩
  ·cases hf
 ·cases hf
def tyNm (p:PV) (S:Sto):Option String:=match p with
 | .non => some "NoneType" | .bl _ => some "bool" | .int _ => some "int" | .str _ => some "str" | .tup _ => some "tuple" | .fls _ => some "list"
 | .loc l => match S[l]? with | some (.lst _) => some "list" | some (.dct _) => some "dict" | _ => none
 | .fn _ _ _ => none
def isiP (T:String) (p:PV) (S:Sto):Option Bool:=(tyNm p S).bind fun t => kitB t T
def isiM (T:String) (m:EM PV):EM PV:=fun τ S => bnd (m τ S) fun p S1 => match isiP T p S1 with | some b => .ok (.bl b) S1 | none => .bad
theorem ty_rp {ι : List Addr} {H:Hp} {S:Sto} {p:PV} {x:V} {t:String} (rs:RSt X.prog X.w X.K X.mg ι H S) (rp:Rp X.K ι H p x) (h:tyNm p S = some t):TyX X.K H x (.type t):=by
 unfold tyNm at h
 split at h
 ·cases h; cases (show x = _ from rp); exact .base .non
 ·cases h; cases (show x = _ from rp); exact .base (.bl _)
 ·cases h; cases (show x = _ from rp); exact .base (.int _)
 ·cases h; cases (show x = _ from rp); exact .base (.str _)
 ·cases h
  obtain ⟨a,vs,rfl,h1,h2⟩:=rp
  rcases h1 with ⟨o,h1,_⟩ | ⟨o,its,n,h1,h3,_⟩
  ·exact .fTuple h1
  ·exact .kTuple h1 h3
 ·cases h
  obtain ⟨a,vs,rfl,h1,h2⟩:=rp
  rcases h1 with ⟨o,h1⟩ | ⟨o,its,n,h1,h3,_⟩
  ·exact .base (.frz h1)
  ·exact .kList h1 h3
 ·split at h
  ·rename_i eS
   cases h
   obtain ⟨a,rfl,h1⟩:=rp
   obtain ⟨vs,h2,h3⟩:=rs.obj _ a _ h1 eS
   exact .base (.lst h2)
  ·rename_i eS
   cases h
   obtain ⟨a,rfl,h1⟩:=rp
   obtain ⟨vs,h2,h3⟩:=rs.obj _ a _ h1 eS
   exact .base (.dK h2)
  ·cases h
 ·cases h
theorem re_isi {x2:Str} {p p3:Pos} {T:String} (hg:Gl X "isinstance") (hm:X.mg "isinstance" = none) (hg2:Gl X x2) (hm2:X.mg x2 = none) (hv2:bootBuiltins x2 = some (.type T)) (ha:RE X W a ma)
  (hv:bootBuiltins "isinstance" = some (.builtin "isinstance"):=by decide +kernel) (hn2:x2 ≠ "__name__" := by decide) (hdb2:(x2 == ("__debug__" : Str)) = false:=by decide)
  (he:starEach [a,.Name x2 p3] X.env = (false,eval a X.env) :: starEach [.Name x2 p3] X.env:=by rfl) (he2:starEach [.Name x2 p3] X.env = (false,eval (.Name x2 p3) X.env) :: starEach [] X.env:=by rfl)
  (hpl:(backTo pos (starEach [.Name x2 p3] X.env)).any (·.1) = false:=by rfl):RE X W (.Call (.Name "isinstance" p) [a,.Name x2 p3] [] pos) (isiM T ma):=by
 refine ⟨pe_weak (pe_callB call_isi hg hm hv (pa_cons ha.pe (pa_cons (pe_bltn (v:=.ty T) hg2 hm2 hv2 rfl hn2 hdb2) pa_nil he2) he) (by decide) (by decide) he hpl) fun σ H Q h => ?_⟩
 obtain ⟨ι,τ,S,r,ρ,pk⟩:=h
 refine ⟨ι,τ,S,r,ρ,pk.next.mono ?_⟩
 rintro x H1 ⟨q,ι1,S1,e1,r1,q1,pk1⟩
 show rIsi X.K [x,.ty T] H1 Q
 unfold isiP at pk1
 cases ht:tyNm q S1 with
 | none => simp only [ht,Option.bind] at pk1; exact pk1.elim
 | some t =>
  simp only [ht,Option.bind] at pk1
  cases hk:kitB t T with
  | none => simp only [hk] at pk1; exact pk1.elim
  | some b =>
   simp only [hk] at pk1
   exact ⟨x,.ty T,.type t,.type T,b,rfl,.ty T,ty_rp r1 q1 ht,kit_ty hk,pk1 _ _ _ .refl r1 rfl⟩
end
end PL
namespace PL
open PySem PySem.Spec PyProof.Rows L2
section
variable {X:Cx} {W:WX} {a b c e o:Expr} {es rest:List Expr} {ma mb mc mo:EM PV} {tA tB':EM Bool} {mas:EM (List PV)} {pos apos cpos p2:Pos}
abbrev OpM:=PV→List PV→Sto→Option (PV × Sto)
def gMt (X:Cx) (f:OpM):V→List V→Hp→VK→Prop:=fun x xs H Q => ∃ ι S p ps v S',RSt X.prog X.w X.K X.mg ι H S∧Rp X.K ι H p x∧RpL X.K ι H ps xs∧f p ps S = some (v,S') ∧
 ∀ ι' H' z,Ext ι H ι' H'→RSt X.prog X.w X.K X.mg ι' H' S'→Rp X.K ι' H' v z→Q z H'
def isTy (T:String) (p:PV) (S:Sto):Bool:=match p with
 | .str _ => T == "str"
 | .fls _ => T == "list"
 | .loc l => match S[l]? with | some (.lst _) => T == "list" | some (.dct _) => T == "dict" | _ => false
 | _ => false
theorem isTy_rp {T:String} {ι : List Addr} {H:Hp} {S:Sto} {p:PV} {x:V} (rs:RSt X.prog X.w X.K X.mg ι H S) (rp:Rp X.K ι H p x) (h:isTy T p S = true):tyV X.K T x H:=by
 unfold isTy at h
 split at h
 ·cases (show x = _ from rp); exact eq_of_beq h
 ·obtain ⟨a,vs,rfl,h1,h2⟩:=rp
  exact .inl ⟨eq_of_beq h,vs,h1.seq⟩
 ·obtain ⟨a,rfl,h1⟩:=rp
  split at h
  ·rename_i eS
   obtain ⟨vs,h2,h3⟩:=rs.obj _ a _ h1 eS
   exact .inl ⟨eq_of_beq h,vs,.of h2⟩
  ·rename_i eS
   obtain ⟨vs,h2,h3⟩:=rs.obj _ a _ h1 eS
   exact .inr (.inr (.inl ⟨eq_of_beq h,.inl ⟨vs,h2⟩⟩))
  ·cases h
 ·cases h
def mtM (T:String) (f:OpM) (m:EM PV) (ms:EM (List PV)):EM PV:=fun τ S => bnd (m τ S) fun p S1 => if isTy T p S1 = true then bnd (ms τ S1) fun ps S2 => lift (f p ps S2) else .bad
theorem re_bm {T id:String} {name:Str} {f:OpM} (pa:PlainAttrs T) (slot:Slot T name id) (hty:typeOf (.builtin id) = pure (.type "method_descriptor")) (hm:MtR X id (gMt X f)) (ho:RE X W o mo) (ha:RA X W (e :: es) mas)
  (hbase:attributeBase o name X.env (eval o X.env) = eval o X.env:=by rfl)
  (hfew:((backTo cpos (starEach (e :: es) X.env)).all (fun x => !x.1) && (backToKw cpos (keywordEach [] X.env)).all (fun x => x.1.isSome)
   && decide ((e :: es).length + ([]:List Keyword).length + (if ([]:List Keyword).isEmpty then 0 else 1) < 30)) = true:=by rfl)
  (hline:(apos.endLine == cpos.line) = true:=by rfl) (hs:starEach (e :: es) X.env = (false,eval e X.env) :: starEach es X.env:=by rfl) (hplain:(backTo cpos (starEach es X.env)).any (·.1) = false:=by rfl) :
  RE X W (.Call (.Attribute o name apos) (e :: es) [] cpos) (mtM T f mo mas):=by
 refine ⟨pe_weak (pe_bm pa slot hty hm ho.pe ha.pa hbase hfew hline hs hplain) fun σ H Q h => ?_⟩
 obtain ⟨ι,τ,S,r,ρ,pk⟩:=h
 refine ⟨ι,τ,S,r,ρ,pk.next.mono ?_⟩
 rintro x H1 ⟨p,ι1,S1,e1,r1,q1,pk1⟩
 split at pk1
 ·rename_i ht
  refine ⟨isTy_rp r1 q1 ht,ι1,τ,S1,r1,ρ.up e1,pk1.next.mono ?_⟩
  rintro xs H2 ⟨ps,ι2,S2,e2,r2,q2,pk2⟩
  obtain ⟨v,S',hf,k⟩:=pk_lift pk2
  exact ⟨ι2,S2,p,ps,v,S',r2,q1.up e2,q2,hf,k⟩
 ·exact pk1.elim
theorem nones {ι : List Addr} {H H':Hp} {S':Sto} {Q:VK} (k:∀ ι' H' z,Ext ι H ι' H'→RSt X.prog X.w X.K X.mg ι' H' S'→Rp X.K ι' H' .non z→Q z H') (h:Ext ι H ι H'∧RSt X.prog X.w X.K X.mg ι H' S'):Q .non H':=k ι H' .non h.1 h.2 rfl
def appendP:OpM:=fun p ps S => match p,ps with
 | .loc l,[q] => match S[l]? with | some (.lst xs) => if xs.length < 16777216 then some (.non,S.set l (.lst (xs ++ [q]))) else none | _ => none
 | _,_ => none
theorem om_append:MtR X "list.append" (gMt X appendP):=by
 intro pins s σ H x xs v us Q I rx rxs ⟨ι,S,p,ps,w,S',rs,rp,rps,hf,k⟩
 unfold appendP at hf
 split at hf
 ·split at hf
  ·rename_i ys eS
   split at hf
   ·rename_i hl
    cases hf
    obtain ⟨a,rfl,h1⟩:=rp
    obtain ⟨y,rfl,h2⟩:=rpl1 rps
    obtain ⟨vs,h3,h4⟩:=rs.obj _ a _ h1 eS
    refine mt_append pins s σ H _ _ v us Q I rx rxs ⟨a,vs,y,rfl,rfl,h3,by rw [← h4.length,sizeLine_eq]; exact hl,?_⟩
    exact nones k (rs.wlst h1 (h4.app (RpL.one h2)))
   ·cases hf
  ·cases hf
 ·cases hf
def extendP:OpM:=fun p ps S => match p,ps with
 | .loc l,[.loc m] => match S[l]?,S[m]? with
  | some (.lst xs),some (.lst ys) => if xs.length + ys.length ≤ 16777216 then some (.non,S.set l (.lst (xs ++ ys))) else none
  | _,_ => none
 | _,_ => none
theorem om_extend:MtR X "list.extend" (gMt X extendP):=by
 intro pins s σ H x xs v us Q I rx rxs ⟨ι,S,p,ps,w,S',rs,rp,rps,hf,k⟩
 unfold extendP at hf
 split at hf
 ·split at hf
  ·rename_i ys zs eS eM
   split at hf
   ·rename_i hl
    cases hf
    obtain ⟨a,rfl,h1⟩:=rp
    obtain ⟨y,rfl,b,rfl,h2⟩:=rpl1 rps
    obtain ⟨vs,h3,h4⟩:=rs.obj _ a _ h1 eS
    obtain ⟨ws,h5,h6⟩:=rs.obj _ b _ h2 eM
    refine mt_extend pins s σ H _ _ v us Q I rx rxs ⟨a,b,vs,ws,rfl,rfl,h3,h5,by rw [← h4.length,← h6.length,sizeLine_eq]; exact hl,?_⟩
    exact nones k (rs.wlst h1 (h4.app h6))
   ·cases hf
  ·cases hf
 ·cases hf
def popP:OpM:=fun p ps S => match p with
 | .loc l => match S[l]? with
  | some (.lst xs) => match ps with
   | [] => (xs[xs.length - 1]?).map fun y => (y,S.set l (.lst xs.dropLast))
   | [.int i] => if -4611686018427387904 ≤ i∧i < 4611686018427387904 then (ixN xs.length i).bind fun j => (xs[j]?).map fun y => (y,S.set l (.lst (xs.eraseIdx j))) else none
   | _ => none
  | _ => none
 | _ => none
theorem RpL.dropLast {K:PySem.W.Frag} {ι : List Addr} {H:Hp} {xs:List PV} {vs:List V} (h:RpL K ι H xs vs):RpL K ι H xs.dropLast vs.dropLast:=by
 rw [List.dropLast_eq_take,List.dropLast_eq_take,h.length]
 exact h.take _
theorem RpL.erase {K:PySem.W.Frag} {ι : List Addr} {H:Hp}:∀ {xs:List PV} {vs:List V} (i:Nat),RpL K ι H xs vs→RpL K ι H (xs.eraseIdx i) (vs.eraseIdx i)
 | [],_,i,h => by cases (show _ = _ from h); rfl
 | x :: xs,_,0,h => by
  obtain ⟨v,r,rfl,_,h2⟩:=h
  exact h2
 | x :: xs,_,i + 1,h => by
  obtain ⟨v,r,rfl,h1,h2⟩:=h
  exact ⟨v,r.eraseIdx i,rfl,h1,RpL.erase i h2⟩
theorem om_pop:MtR X "list.pop" (gMt X popP):=by
 intro pins s σ H x xs v us Q I rx rxs ⟨ι,S,p,ps,w,S',rs,rp,rps,hf,k⟩
 unfold popP at hf
 split at hf
 ·split at hf
  ·rename_i ys eS
   obtain ⟨a,rfl,h1⟩:=rp
   obtain ⟨vs,h3,h4⟩:=rs.obj _ a _ h1 eS
   split at hf
   ·cases (show xs = _ from rps)
    cases hy:ys[ys.length - 1]? with
    | none => rw [hy] at hf; cases hf
    | some y =>
     rw [hy] at hf
     cases hf
     obtain ⟨y',h5,h6⟩:=h4.get hy
     obtain ⟨E,r2⟩:=rs.wlst h1 h4.dropLast
     exact mt_pop pins s σ H _ _ v us Q I rx rxs ⟨a,vs,y',rfl,rfl,h3,by rw [← h4.length]; exact h5,k _ _ _ E r2 (h6.up E)⟩
   ·rename_i i
    split at hf
    ·rename_i hi
     obtain ⟨z,rfl,h7⟩:=rpl1 rps
     cases (show z = _ from h7)
     cases hj:ixN ys.length i with
     | none => rw [hj] at hf; cases hf
     | some j =>
      rw [hj] at hf
      simp only [Option.bind] at hf
      cases hy:ys[j]? with
      | none => rw [hy] at hf; cases hf
      | some y =>
       rw [hy] at hf
       cases hf
       obtain ⟨y',h5,h6⟩:=h4.get hy
       obtain ⟨E,r2⟩:=rs.wlst h1 (h4.erase j)
       refine mt_popAt pins s σ H _ _ v us Q I rx rxs ⟨a,vs,i,j,y',rfl,rfl,h3,by omega,by omega,?_,h5,k _ _ _ E r2 (h6.up E)⟩
       rw [← h4.length]
       exact (ixN_seq hj).1
    ·cases hf
   ·cases hf
  ·cases hf
 ·cases hf
def insertP:OpM:=fun p ps S => match p,ps with
 | .loc l,[.int i,q] => match S[l]? with
  | some (.lst xs) => if xs.length < 16777216∧0 ≤ i∧i < 4611686018427387904 then some (.non,S.set l (.lst (xs.take i.toNat ++ [q] ++ xs.drop i.toNat))) else none
  | _ => none
 | _,_ => none
theorem om_insert:MtR X "list.insert" (gMt X insertP):=by
 intro pins s σ H x xs v us Q I rx rxs ⟨ι,S,p,ps,w,S',rs,rp,rps,hf,k⟩
 unfold insertP at hf
 split at hf
 ·rename_i l i q
  split at hf
  ·rename_i ys eS
   split at hf
   ·rename_i hl
    cases hf
    obtain ⟨a,rfl,h1⟩:=rp
    obtain ⟨y,z,rfl,h2,h5⟩:=rpl2 rps
    cases (show y = _ from h2)
    obtain ⟨vs,h3,h4⟩:=rs.obj _ a _ h1 eS
    refine mt_insert pins s σ H _ _ v us Q I rx rxs ⟨a,vs,i,z,rfl,rfl,h3,by rw [← h4.length,sizeLine_eq]; exact hl.1,hl.2.1,by omega,?_⟩
    exact nones k (rs.wlst h1 (((h4.take _).app (RpL.one h5)).app (h4.drop _)))
   ·cases hf
  ·cases hf
 ·cases hf
def strsP:List PV→Option (List Str)
 | [] => some []
 | .str x :: r => (strsP r).map fun xs => x :: xs
 | _ => none
theorem strs_rp {K:PySem.W.Frag} {ι : List Addr} {H:Hp}:∀ {xs:List PV} {bs:List Str} {vs:List V},RpL K ι H xs vs→strsP xs = some bs→vs = bs.map V.str
 | [],bs,_,h,e => by cases e; exact h
 | x :: xs,bs,_,h,e => by
  obtain ⟨v,r,rfl,h1,h2⟩:=h
  cases x with
  | str b =>
   unfold strsP at e
   cases q:strsP xs with
   | none => rw [q] at e; cases e
   | some bs' =>
    rw [q] at e
    cases e
    cases (show v = _ from h1)
    rw [strs_rp h2 q]; rfl
  | _ => cases e
def joinP:OpM:=fun p ps S => match p,ps with
 | .str a,[q] => ((itemsP q S).bind strsP).bind fun ys => if (ys.map (·.length)).sum + ys.length * a.length ≤ 16777216 then some (.str (Txt.join a ys),S) else none
 | _,_ => none
theorem om_join:MtR X "str.join" (gMt X joinP):=by
 intro pins s σ H x xs v us Q I rx rxs ⟨ι,S,p,ps,w,S',rs,rp,rps,hf,k⟩
 unfold joinP at hf
 split at hf
 ·rename_i a q
  cases hi:itemsP q S with
  | none => rw [hi] at hf; cases hf
  | some xs =>
   rw [hi] at hf
   simp only [Option.bind] at hf
   cases hy:strsP xs with
   | none => rw [hy] at hf; cases hf
   | some ys =>
    rw [hy] at hf
    simp only at hf
    split at hf
    ·rename_i hl
     cases hf
     cases (show x = _ from rp)
     obtain ⟨y,rfl,h2⟩:=rpl1 rps
     obtain ⟨b,vs,rfl,h3,h4⟩:=items_rp rs h2 hi
     have e:=strs_rp h3 hy
     subst e
     exact mt_join pins s σ H _ _ v us Q I rx rxs ⟨a,b,ys,rfl,rfl,h4.imp id (·.2),hl,k _ _ _ .refl rs rfl⟩
    ·cases hf
 ·cases hf
end
end PL
namespace PL
open PySem PySem.Spec PyProof.Rows L2
abbrev FM:=List PV→Sto→Out PV
def spD (ΩP:Program) (Ωw:World) (K:PySem.W.Frag) (mg:Str→Option Value) (n:Nat) (F:FM):Sp:=fun vs H Q E => ∃ ι S ps,RSt ΩP Ωw K mg ι H S∧RpL K ι H ps vs∧ps.length = n ∧
 wp (F ps S) (fun v S' => ∀ ι' H' x,Ext ι H ι' H'→RSt ΩP Ωw K mg ι' H' S'→Rp K ι' H' v x→Q x H')
  (fun c p S' => ∀ ι' H' Ca d x,Ext ι H ι' H'→RSt ΩP Ωw K mg ι' H' S'→mg c = some (.ref Ca)→H' d = some (.xd [("what",x)])→Rp K ι' H' p x→E (.ref Ca) (some d) H')
theorem spD_len {K:PySem.W.Frag} {mg:Str→Option Value} {n:Nat} {F:FM}:∀ vs H Q E,spD ΩP Ωw K mg n F vs H Q E→vs.length = n:=fun vs H Q E ⟨ι,S,ps,_,r,l,_⟩ => by rw [← r.length]; exact l
def callS (n:Nat) (body:SM):FM:=fun ps S => match body (startE n ps) S with
 | .nx _ S' => .ok .non S'
 | .rt v S' => .ok v S'
 | .er c p _ S' => .er c p S'
 | .bad => .bad
def callD (F:FM) (ms:EM (List PV)):EM PV:=fun τ S => bnd (ms τ S) F
section
variable {X:Cx} {W:WX} {a b c e o:Expr} {es rest:List Expr} {ma mb mc mo:EM PV} {tA tB':EM Bool} {mas:EM (List PV)} {pos apos cpos p2:Pos}
theorem call_wish {n:Nat} {F:FM} {σ : L2.St} {Q:VK} {ι : List Addr} {H:Hp} {S:Sto} {ps:List PV} {vs:List V} (r:RSt X.prog X.w X.K X.mg ι H S) (q:RpL X.K ι H ps vs) (hn:ps.length = n) (pk:Pk X W (rV X) σ Q ι H (F ps S)):spD X.prog X.w X.K X.mg n F vs H Q (WE W σ) :=
 ⟨ι,S,ps,r,q,hn,wp_mono pk (fun _ _ k => k) fun c p S' k ι' H' Ca d x e r m hd hp => k ι' H' Ca d x e r m hd hp⟩
theorem re_call {x:Str} {p:Pos} {n k:Nat} {F:FM} {f:Addr} {fd:FuncData} {ps:List Str} (G:FnOk X.prog X.w X.K X.mg X.base (L2.CX X.prog X.w) k f fd ps (spD X.prog X.w X.K X.mg n F)) (hr:Room k X.A) (hg:Gl X x) (hm:X.mg x = some (.ref f)) (hk:PySem.W.keepIn X.K (.ref f) = true) (hb:Binds X.K fd ps [])
  (tk:Takes X W) (ha:RA X W (e :: es) mas) (hn:∀ τ S qs S',mas τ S = .ok qs S'→qs.length = n) (hdb:(x == ("__debug__" : Str)) = false:=by decide) (he:starEach (e :: es) X.env = (false,eval e X.env) :: starEach es X.env:=by rfl) (hpl:(backTo pos (starEach es X.env)).any (·.1) = false:=by rfl) :
  RE X W (.Call (.Name x p) (e :: es) [] pos) (callD F mas):=by
 refine ⟨pe_weak (pe_callSD (dvs:=[]) (E:=WE W) G hr hg hm hk hb .nil (fun σ => passAt tk σ) ha.pa hdb he hpl) fun σ H Q h => ?_⟩
 obtain ⟨ι,τ,S,r,ρ,pk⟩:=h
 refine ⟨ι,τ,S,r,ρ,?_⟩
 have hn':=hn τ S
 unfold callD at pk
 cases hm:mas τ S with
 | bad => rw [hm] at pk; exact pk.elim
 | er c p S' => rw [hm] at pk; exact pk
 | ok qs S1 =>
  have hl:=hn' qs S1 hm
  rw [hm] at pk
  show ∀ ι' H' x,Ext ι H ι' H'→RSt X.prog X.w X.K X.mg ι' H' S1→RpL X.K ι' H' qs x→spD X.prog X.w X.K X.mg n F (x ++ []) H' Q (WE W σ)
  intro ι' H' x e' r' q'
  rw [List.append_nil]
  exact call_wish r' q' hl (Pk.up (o:=F qs S1) pk e')
theorem aN_len:∀ (τ : En) (S:Sto) (qs:List PV) (S':Sto),aN τ S = .ok qs S'→qs.length = 0:=fun τ S qs S' h => by cases h; rfl
theorem aC_len {n:Nat} {m:EM PV} {ms:EM (List PV)} (h:∀ (τ : En) (S:Sto) (qs:List PV) (S':Sto),ms τ S = .ok qs S'→qs.length = n):∀ (τ : En) (S:Sto) (qs:List PV) (S':Sto),aC m ms τ S = .ok qs S'→qs.length = n + 1:=fun τ S qs S' hh => by
 unfold aC at hh
 cases h1:m τ S with
 | bad => rw [h1] at hh; cases hh
 | er c p S1 => rw [h1] at hh; cases hh
 | ok p S1 =>
  rw [h1] at hh
  simp only [bnd_ok] at hh
  cases h2:ms τ S1 with
  | bad => rw [h2] at hh; cases hh
  | er c p S1 => rw [h2] at hh; cases hh
  | ok ps S2 =>
   rw [h2] at hh
   cases hh
   simp [h τ S1 ps S' h2]
def PkS (X:Cx) (W:WX) (D:Ends) (ι : List Addr) (H:Hp) (o:OS):Prop :=
 wpS o (fun τ' S' => ∀ ι' H' σ',Ext ι H ι' H'→RSt X.prog X.w X.K X.mg ι' H' S'→REn X.K ι' H' τ' σ'→D.nx σ' H')
  (fun v S' => ∀ ι' H' x,Ext ι H ι' H'→RSt X.prog X.w X.K X.mg ι' H' S'→Rp X.K ι' H' v x→D.rt x H')
  (fun c p τ' S' => ∀ ι' H' σ' Ca d x,Ext ι H ι' H'→RSt X.prog X.w X.K X.mg ι' H' S'→REn X.K ι' H' τ' σ'→X.mg c = some (.ref Ca)→H' d = some (.xd [("what",x)])→Rp X.K ι' H' p x→W (.ref Ca) (some d) σ' H')
theorem PkS.up {D:Ends} {ι ι1:List Addr} {H H1:Hp} {o:OS} (h:PkS X W D ι H o) (e:Ext ι H ι1 H1):PkS X W D ι1 H1 o :=
 wpS_mono h (fun τ S k ι' H' σ' e' => k ι' H' σ' (e.trans e')) (fun v S k ι' H' x e' => k ι' H' x (e.trans e')) fun c p τ S k ι' H' σ' Ca d x e' => k ι' H' σ' Ca d x (e.trans e')
def gS (X:Cx) (W:WX) (m:SM):TS:=fun D σ H => ∃ ι τ S,RSt X.prog X.w X.K X.mg ι H S∧REn X.K ι H τ σ∧PkS X W D ι H (m τ S)
structure RS (X:Cx) (W:WX) (st:Stmt) (m:SM):Prop where
 ps:PS X st (gS X W m)
structure RSs (X:Cx) (W:WX) (st:List Stmt) (m:SM):Prop where
 pss:PSs X st (gS X W m)
theorem ps_weak {st:Stmt} {t t':TS} (h:PS X st t) (w:∀ D σ H,t' D σ H→t D σ H):PS X st t':=⟨fun pins s σ H D I hh => h.run pins s σ H D I (w D σ H hh)⟩
theorem pss_weak {st:List Stmt} {t t':TS} (h:PSs X st t) (w:∀ D σ H,t' D σ H→t D σ H):PSs X st t':=⟨fun pins s σ H D I hh => h.run pins s σ H D I (w D σ H hh)⟩
def bndS {α : Type} (o:Out α) (τ : En) (f : α→Sto→OS):OS:=match o with
 | .ok a S => f a S
 | .er c p S => .er c p τ S
 | .bad => .bad
@[simp] theorem bndS_ok {α : Type} (a : α) (S:Sto) (τ : En) (f : α→Sto→OS):bndS (.ok a S) τ f = f a S:=rfl
@[simp] theorem bndS_er {α : Type} (c:Str) (p:PV) (S:Sto) (τ : En) (f : α→Sto→OS):bndS (.er c p S) τ f = .er c p τ S:=rfl
@[simp] theorem bndS_bad {α : Type} (τ : En) (f : α→Sto→OS):bndS (.bad:Out α) τ f = .bad:=rfl
theorem wpS_bndS {α : Type} (o:Out α) (τ : En) (f : α→Sto→OS) (N:En→Sto→Prop) (T:PV→Sto→Prop) (R:Str→PV→En→Sto→Prop):wpS (bndS o τ f) N T R = wp o (fun a S => wpS (f a S) N T R) (fun c p S => R c p τ S):=by
 cases o <;> rfl
theorem PkS.next {α β : Type} {R:RR α β} {D:Ends} {σ : L2.St} {ι : List Addr} {H:Hp} {τ : En} {o:Out α} {f : α→Sto→OS} (ρ : REn X.K ι H τ σ) (h:PkS X W D ι H (bndS o τ f)) :
  Pk X W R σ (fun x H1 => ∃ a ι1 S1,Ext ι H ι1 H1∧RSt X.prog X.w X.K X.mg ι1 H1 S1∧R ι1 H1 a x∧PkS X W D ι1 H1 (f a S1)) ι H o:=by
 unfold PkS at h
 rw [wpS_bndS] at h
 exact wp_mono h (fun a S k ι' H' x e r q => ⟨a,ι',S,e,r,q,PkS.up (o:=f a S) k e⟩) fun c p S k ι' H' Ca d x e r m hd hp => k ι' H' σ Ca d x e r (ρ.up e) m hd hp
def nopS:SM:=fun τ S => .nx τ S
def seqO (o:OS) (k:SM):OS:=match o with
 | .nx τ S => k τ S
 | o => o
@[simp] theorem seqO_nx (τ : En) (S:Sto) (k:SM):seqO (.nx τ S) k = k τ S:=rfl
@[simp] theorem seqO_rt (v:PV) (S:Sto) (k:SM):seqO (.rt v S) k = .rt v S:=rfl
@[simp] theorem seqO_er (c:Str) (p:PV) (τ : En) (S:Sto) (k:SM):seqO (.er c p τ S) k = .er c p τ S:=rfl
@[simp] theorem seqO_bad (k:SM):seqO .bad k = .bad:=rfl
theorem wpS_seqO (o:OS) (k:SM) (N:En→Sto→Prop) (T:PV→Sto→Prop) (R:Str→PV→En→Sto→Prop):wpS (seqO o k) N T R = wpS o (fun τ S => wpS (k τ S) N T R) T R:=by
 cases o <;> rfl
def seqS (s t:SM):SM:=fun τ S => seqO (s τ S) t
theorem rss_nil:RSs X W [] nopS:=⟨pss_weak pss_nil fun D σ H ⟨ι,τ,S,r,ρ,pk⟩ => pk ι H σ .refl r ρ⟩
theorem rss_cons {st:Stmt} {rest:List Stmt} {m k:SM} (h1:RS X W st m) (h2:RSs X W rest k):RSs X W (st :: rest) (seqS m k):=by
 refine ⟨pss_weak (pss_cons h1.ps h2.pss) fun D σ H ⟨ι,τ,S,r,ρ,pk⟩ => ⟨ι,τ,S,r,ρ,?_⟩⟩
 unfold PkS seqS at pk
 rw [wpS_seqO] at pk
 exact wpS_mono pk (fun τ' S' w ι' H' σ' e r' ρ' => ⟨ι',τ',S',r',ρ',PkS.up (o:=k τ' S') w e⟩) (fun _ _ k => k) fun _ _ _ _ k => k
theorem rss_one {st:Stmt} {m:SM} (h1:RS X W st m):RSs X W [st] m:=⟨pss_one h1.ps⟩
def exprS (m:EM PV):SM:=fun τ S => bndS (m τ S) τ fun _ S1 => .nx τ S1
theorem rs_expr (he:RE X W e ma) (hs:swapsWith e none pos.line X.env = pure false:=by rfl):RS X W (.Expr e pos) (exprS ma) :=
 ⟨ps_weak (ps_expr he.pe hs) fun D σ H ⟨ι,τ,S,r,ρ,pk⟩ => ⟨ι,τ,S,r,ρ,(PkS.next (R:=rV X) ρ pk).mono fun x H1 ⟨p,ι1,S1,e1,r1,q1,pk1⟩ => pk1 ι1 H1 σ .refl r1 (ρ.up e1)⟩⟩
def retS (m:EM PV):SM:=fun τ S => bndS (m τ S) τ fun v S1 => .rt v S1
theorem rs_ret (he:RE X W e ma):RS X W (.Return (some e) pos) (retS ma) :=
 ⟨ps_weak (ps_ret he.pe) fun D σ H ⟨ι,τ,S,r,ρ,pk⟩ => ⟨ι,τ,S,r,ρ,(PkS.next (R:=rV X) ρ pk).mono fun x H1 ⟨p,ι1,S1,e1,r1,q1,pk1⟩ => pk1 ι1 H1 x .refl r1 q1⟩⟩
def ifS (c:EM Bool) (s t:SM):SM:=fun τ S => bndS (c τ S) τ fun k S1 => if k = true then s τ S1 else t τ S1
theorem rs_if {sa sb:List Stmt} {s t:SM} (hc:RT X W c tA) (ha:RSs X W sa s) (hb:RSs X W sb t):RS X W (.If c sa sb pos) (ifS tA s t):=by
 refine ⟨ps_weak (ps_if hc.pt ha.pss hb.pss) fun D σ H ⟨ι,τ,S,r,ρ,pk⟩ => ⟨ι,τ,S,r,ρ,(PkS.next (R:=rB) ρ pk).mono fun x H1 ⟨p,ι1,S1,e1,r1,q1,pk1⟩ => ?_⟩⟩
 have q1:p = x:=q1
 subst q1
 cases p with
 | true => exact ⟨ι1,τ,S1,r1,ρ.up e1,pk1⟩
 | false => exact ⟨ι1,τ,S1,r1,ρ.up e1,pk1⟩
abbrev GM:=PV→En→Option En
abbrev GMs:=List PV→En→Option En
def Ch (sl:List Nat) (σ σ':L2.St):Prop:=∀ vs,(∀ i ∈ sl,i ∈ vs)→wipe σ' vs = wipe σ vs
theorem wipe_set {σ : L2.St} {i:Nat} {x:Option V}:∀ {vs:List Nat},i ∈ vs→wipe (σ.set i x) vs = wipe σ vs
 | v :: vs,h => by
  unfold wipe
  by_cases hm:i ∈ vs
  ·rw [wipe_set hm]
  ·have e:i = v:=by
    rcases List.mem_cons.mp h with h | h
    ·exact h
    ·exact absurd h hm
   subst e
   have comm:∀ ws:List Nat,i ∉ ws→wipe (σ.set i x) ws = (wipe σ ws).set i x:=by
    intro ws
    induction ws with
    | nil => intro _; rfl
    | cons w ws ih =>
     intro hw
     unfold wipe
     rw [ih (fun z => hw (List.mem_cons_of_mem _ z)),List.set_comm _ _ (fun z => hw (by rw [z]; exact List.mem_cons_self))]
   rw [comm vs hm,List.set_set]
theorem Ch.one {σ : L2.St} {i:Nat} {x:Option V}:Ch [i] σ (σ.set i x):=fun vs h => wipe_set (h i (by simp))
theorem Ch.refl {σ : L2.St}:Ch [] σ σ:=fun _ _ => rfl
theorem Ch.trans {s1 s2:List Nat} {σ σ1 σ2:L2.St} (a:Ch s1 σ σ1) (b:Ch s2 σ1 σ2):Ch (s1 ++ s2) σ σ2:=fun vs h =>
 (b vs fun i hi => h i (List.mem_append_right _ hi)).trans (a vs fun i hi => h i (List.mem_append_left _ hi))
def gG (X:Cx) (g:GM) (sl:List Nat):TG:=fun v σ H Q => ∃ ι τ S p τ',RSt X.prog X.w X.K X.mg ι H S∧REn X.K ι H τ σ∧Rp X.K ι H p v∧g p τ = some τ'∧∀ σ',REn X.K ι H τ' σ'→Ch sl σ σ'→Q σ' H
def gGs (X:Cx) (g:GMs) (sl:List Nat):TGs:=fun vs σ H Q => ∃ ι τ S ps τ',RSt X.prog X.w X.K X.mg ι H S∧REn X.K ι H τ σ∧RpL X.K ι H ps vs∧g ps τ = some τ'∧∀ σ',REn X.K ι H τ' σ'→Ch sl σ σ'→Q σ' H
structure RG (X:Cx) (tg:Expr) (g:GM) (sl:List Nat):Prop where
 pg:PG X tg (gG X g sl)
structure RGs (X:Cx) (tg:List Expr) (g:GMs) (sl:List Nat):Prop where
 pgs:PGs X tg (gGs X g sl)
theorem pg_weak {tg:Expr} {t t':TG} (h:PG X tg t) (w:∀ v σ H Q,t' v σ H Q→t v σ H Q):PG X tg t':=⟨fun pins s σ H v u Q I r hh => h.run pins s σ H v u Q I r (w v σ H Q hh)⟩
theorem pgs_weak {tg:List Expr} {t t':TGs} (h:PGs X tg t) (w:∀ v σ H Q,t' v σ H Q→t v σ H Q):PGs X tg t':=⟨fun pins s σ H v u Q I r hh => h.run pins s σ H v u Q I r (w v σ H Q hh)⟩
def gN (i:Nat):GM:=fun p τ => some (τ.set i (some p))
def gsN:GMs:=fun ps τ => match ps with | [] => some τ | _ => none
def gsC (g:GM) (h:GMs):GMs:=fun ps τ => match ps with | p :: r => (g p τ).bind fun τ1 => h r τ1 | _ => none
def gT (n:Nat) (g:GMs):GM:=fun p τ => match p with | .tup xs => if xs.length = n then g xs τ else none | _ => none
theorem rg_name (i:Nat) {x:Str} (hN:X.N.Nodup) (hi:X.N[i]? = some x) (hx:Loc X.env.scope x) (hf:X.fn x = true ∨ X.env.scope.names.lookup x = some .local:=by first | exact .inl rfl | exact .inr rfl | assumption):RG X (.Name x pos) (gN i) [i] :=
 ⟨pg_weak (pg_name hN hi hx hf) fun v σ H Q ⟨ι,τ,S,p,τ',r,ρ,q,e,k⟩ => by cases e; exact k _ (ρ.set i q) .one⟩
theorem rgs_nil:RGs X [] gsN []:=⟨pgs_weak pgs_nil fun vs σ H Q ⟨ι,τ,S,ps,τ',r,ρ,q,e,k⟩ => by
 unfold gsN at e
 split at e
 ·cases e; cases (show vs = _ from q); exact ⟨rfl,k _ ρ .refl⟩
 ·cases e⟩
theorem rgs_cons {tg:Expr} {tgs:List Expr} {g:GM} {h:GMs} {s1 s2:List Nat} (h1:RG X tg g s1) (h2:RGs X tgs h s2) (hs:(assignEach (tg :: tgs) X.env).map (·.2) = assign tg X.env :: (assignEach tgs X.env).map (·.2):=by rfl):RGs X (tg :: tgs) (gsC g h) (s1 ++ s2) :=
 ⟨pgs_weak (pgs_cons h1.pg h2.pgs hs) fun vs σ H Q ⟨ι,τ,S,ps,τ',r,ρ,q,e,k⟩ => by
  unfold gsC at e
  split at e
  ·rename_i p pr
   obtain ⟨v,w,rfl,q1,q2⟩:=q
   cases hg:g p τ with
   | none => rw [hg] at e; cases e
   | some τ1 =>
    rw [hg] at e
    exact ⟨v,w,rfl,ι,τ,S,p,τ1,r,ρ,q1,hg,fun σ1 ρ1 c1 => ⟨ι,τ1,S,pr,τ',r,ρ1,q2,e,fun σ2 ρ2 c2 => k σ2 ρ2 (c1.trans c2)⟩⟩
  ·cases e⟩
theorem rg_tup {k n:Nat} {es:List Expr} {g:GMs} {sl:List Nat} (hc:X.calm = true) (h:RGs X es g sl) (hn:(assignEach es X.env).length = n:=by rfl) (hst:(assignEach es X.env).findIdx? (·.1) = none:=by rfl):RG X (.Tuple es k pos) (gT n g) sl :=
 ⟨pg_weak (pg_tup hc h.pgs hn hst) fun v σ H Q ⟨ι,τ,S,p,τ',r,ρ,q,e,k⟩ => by
  unfold gT at e
  split at e
  ·rename_i xs
   split at e
   ·rename_i hl
    obtain ⟨a,vs,rfl,h1,h2⟩:=q
    exact ⟨a,vs,rfl,h1.seq,by rw [← h2.length]; exact hl,ι,τ,S,xs,τ',r,ρ,h2,e,k⟩
   ·cases e
  ·cases e⟩
def asgS (m:EM PV) (g:GM):SM:=fun τ S => bndS (m τ S) τ fun v S1 => match g v τ with | some τ1 => .nx τ1 S1 | none => .bad
theorem asg_read {g:GM} {sl:List Nat} (D:Ends) (σ : L2.St) (H:Hp) (h:gS X W (asgS ma g) D σ H):tAsg (gE X W (rV X) ma) (gG X g sl) D σ H:=by
 obtain ⟨ι,τ,S,r,ρ,pk⟩:=h
 refine ⟨ι,τ,S,r,ρ,(PkS.next (R:=rV X) ρ pk).mono fun x H1 ⟨p,ι1,S1,e1,r1,q1,pk1⟩ => ?_⟩
 cases hg:g p τ with
 | none => rw [hg] at pk1; exact pk1.elim
 | some τ1 =>
  rw [hg] at pk1
  exact ⟨ι1,τ,S1,p,τ1,r1,ρ.up e1,q1,hg,fun σ' ρ' _ => pk1 ι1 H1 σ' .refl r1 ρ'⟩
theorem rs_asg {tg:Expr} {g:GM} {sl:List Nat} (he:RE X W e ma) (hg:RG X tg g sl) (hs:swapsWithSole [tg] e pos.line X.env = pure false:=by rfl) (hw:swappedStores [tg] e X.env = pure none:=by rfl)
  (h1:(assignEach [tg] X.env).map (·.2) = [assign tg X.env]:=by rfl):RS X W (.Assign [tg] e pos) (asgS ma g):=⟨ps_weak (ps_asg he.pe hg.pg hs hw h1) asg_read⟩
theorem rs_set (i:Nat) {x:Str} {pos':Pos} (hN:X.N.Nodup) (hi:X.N[i]? = some x) (hx:Loc X.env.scope x) (he:RE X W e ma) (hs:swapsWith e (some (.Name x pos')) pos.line X.env = pure false:=by rfl) (hf:X.fn x = true ∨ X.env.scope.names.lookup x = some .local:=by first | exact .inl rfl | exact .inr rfl | assumption) :
  RS X W (.Assign [.Name x pos'] e pos) (asgS ma (gN i)) :=
 ⟨ps_weak (ps_set hN hi hx he.pe hs hf) fun D σ H h => by
  obtain ⟨ι,τ,S,r,ρ,pk⟩:=h
  refine ⟨ι,τ,S,r,ρ,(PkS.next (R:=rV X) ρ pk).mono fun x H1 ⟨p,ι1,S1,e1,r1,q1,pk1⟩ => ?_⟩
  exact pk1 ι1 H1 _ .refl r1 ((ρ.up e1).set i q1)⟩
def setP (o i v:PV) (S:Sto):Option Sto:=match o,i with
 | .loc l,.int k => match S[l]? with | some (.lst xs) => (ixN xs.length k).map fun j => S.set l (.lst (xs.set j v)) | _ => none
 | _,_ => none
def setS (m mo mi:EM PV):SM:=fun τ S => bndS (m τ S) τ fun v S1 => bndS (mo τ S1) τ fun o S2 => bndS (mi τ S2) τ fun i S3 => match setP o i v S3 with | some S4 => .nx τ S4 | none => .bad
theorem rs_sub {i:Expr} {mi:EM PV} {pos':Pos} (he:RE X W e ma) (ho:RE X W o mo) (hi:RE X W i mi)
  (hs:swapsWithSole [.Subscript o i pos'] e pos.line X.env = pure false:=by rfl) (hw:swappedStores [.Subscript o i pos'] e X.env = pure none:=by rfl)
  (h1:(assignEach [.Subscript o i pos'] X.env).map (·.2) = [assign (.Subscript o i pos') X.env]:=by rfl)
  (ha:∀ v,assign (.Subscript o i pos') X.env v = (do
   let ov ← holding [v] (eval o X.env)
   let iv ← holding [v,ov] (eval i X.env)
   standAt pos'
   holding [v,ov,iv] (setItem ov iv v)
   release [v,ov,iv] []):=by intro _; rfl):RS X W (.Assign [.Subscript o i pos'] e pos) (setS ma mo mi):=by
 refine ⟨ps_weak (ps_asg he.pe (pg_sub ho.pe hi.pe set_list ha) hs hw h1) fun D σ H h => ?_⟩
 obtain ⟨ι,τ,S,r,ρ,pk⟩:=h
 refine ⟨ι,τ,S,r,ρ,(PkS.next (R:=rV X) ρ pk).mono fun x H1 ⟨p,ι1,S1,e1,r1,q1,pk1⟩ => ?_⟩
 refine ⟨ι1,τ,S1,r1,ρ.up e1,(PkS.next (R:=rV X) (ρ.up e1) pk1).mono fun y H2 ⟨q,ι2,S2,e2,r2,q2,pk2⟩ => ?_⟩
 refine ⟨ι2,τ,S2,r2,(ρ.up e1).up e2,(PkS.next (R:=rV X) ((ρ.up e1).up e2) pk2).mono fun z H3 ⟨i,ι3,S3,e3,r3,q3,pk3⟩ => ?_⟩
 have ρ3:=((ρ.up e1).up e2).up e3
 have q1:=(q1.up e2).up e3
 have q2:=q2.up e3
 unfold setP at pk3
 split at pk3
 ·rename_i S4 hS
  split at hS
  ·split at hS
   ·rename_i xs eS
    obtain ⟨a,rfl,h1⟩:=q2
    cases (show z = _ from q3)
    obtain ⟨vs,h2,h3⟩:=r3.obj _ a _ h1 eS
    rw [h3.length] at hS
    obtain ⟨j,hj,rfl⟩:=Option.map_eq_some_iff.mp hS
    obtain ⟨E,r4⟩:=r3.wlst h1 (h3.set j q1)
    exact ⟨a,vs,_,j,rfl,rfl,h2,hj,pk3 _ _ _ E r4 (ρ3.up E)⟩
   ·cases hS
  ·cases hS
 ·exact pk3.elim
def augS (i:Nat) (f:Op2) (m:EM PV):SM:=fun τ S => match τ[i]? with
 | some (some x) => bndS (m τ S) τ fun y S1 => match f x y S1 with | some (z,S2) => .nx (τ.set i (some z)) S2 | none => .bad
 | _ => .bad
theorem rs_aug (i:Nat) {x:Str} {pos':Pos} {op:Operator} {f:Op2} (hN:X.N.Nodup) (hi:X.N[i]? = some x) (hx:Loc X.env.scope x) (he:RE X W e ma) (ho:PIp X op (gOp X f)) (hf:X.fn x = true ∨ X.env.scope.names.lookup x = some .local:=by first | exact .inl rfl | exact .inr rfl | assumption) :
  RS X W (.AugAssign (.Name x pos') op e pos) (augS i f ma):=by
 refine ⟨ps_weak (ps_aug hN hi hx he.pe ho hf) fun D σ H h => ?_⟩
 obtain ⟨ι,τ,S,r,ρ,pk⟩:=h
 unfold augS at pk
 cases hτ : τ[i]? with
 | none => rw [hτ] at pk; exact pk.elim
 | some ov =>
  cases ov with
  | none => rw [hτ] at pk; exact pk.elim
  | some p0 =>
   rw [hτ] at pk
   obtain ⟨x0,h1,h2⟩:=ρ.get hτ
   refine ⟨x0,h1,ι,τ,S,r,ρ,(PkS.next (R:=rV X) ρ pk).mono fun y H1 ⟨p,ι1,S1,e1,r1,q1,pk1⟩ => ?_⟩
   cases hf:f p0 p S1 with
   | none => rw [hf] at pk1; exact pk1.elim
   | some zz =>
    obtain ⟨z,S2⟩:=zz
    rw [hf] at pk1
    exact ⟨ι1,S1,p0,p,z,S2,r1,h2.up e1,q1,hf,fun ι' H' w e' r' q' => pk1 _ _ _ e' r' (((ρ.up e1).up e').set i q')⟩
end
end PL
namespace PL
open PySem PySem.Spec PyProof.Rows L2
open Classical in
structure Wk where
 items:List PV
 g:List (Nat × Ob):=[]
def Wk.ok (t:Wk) (S:Sto):Prop:=∀ p ∈ t.g,S[p.1]? = some p.2
section
variable {X:Cx} {W:WX} {a b c e o tg iter:Expr} {es rest:List Expr} {ma mb mc mo:EM PV} {tA tB':EM Bool} {mas:EM (List PV)} {pos apos cpos p2:Pos}
def ItOk (X:Cx):RR Wk It:=fun ι H t J => ∀ (i:Nat) ι2 H2 S2,ExtW ι H ι2 H2→RSt X.prog X.w X.K X.mg ι2 H2 S2→t.ok S2 →
 (i < t.items.length→J.go i H2∧∀ x H3,J.yld i H2 x H3→∃ p,t.items[i]? = some p∧Ext ι2 H2 ι2 H3∧RSt X.prog X.w X.K X.mg ι2 H3 S2∧Rp X.K ι2 H3 p x)∧(t.items.length ≤ i→J.stop i H2)
structure RI (X:Cx) (W:WX) (tg iter:Expr) (m:EM Wk):Prop where
 pi:PI X tg iter (gE X W (ItOk X) m)
theorem pi_weak {t t':TI} (h:PI X tg iter t) (w:∀ σ H R,t' σ H R→t σ H R):PI X tg iter t':=⟨fun pins s σ H R I hh => h.run pins s σ H R I (w σ H R hh)⟩
def itrP (p:PV) (S:Sto):Option Wk:=match p with
 | .tup xs => some ⟨xs,[]⟩
 | .fls xs => some ⟨xs,[]⟩
 | .str x => some ⟨x.cps.toList.map fun c => .str ⟨#[c]⟩,[]⟩
 | .loc l => match S[l]? with | some (.lst xs) => some ⟨xs,[(l,.lst xs)]⟩ | _ => none
 | _ => none
def seqM (m:EM PV):EM Wk:=fun τ S => bnd (m τ S) fun p S1 => match itrP p S1 with | some t => .ok t S1 | none => .bad
def iAny (K:PySem.W.Frag) (tl:TE):TI:=fun σ H R => tl σ H fun x H1 =>
 (∃ a,x = .ref a∧(∃ xs,SqL K H1 a xs)∧R (Itl K a) H1) ∨ (∃ a,x = .ref a∧(∃ xs,SqT K H1 a xs)∧R (Itt K a) H1) ∨ ∃ z,x = .str z∧R (Its z) H1
theorem pi_any {l:Expr} {tl:TE} (hl:PE X l tl):PI X tg l (iAny X.K tl):=by
 refine ⟨fun pins s σ H R I h => ?_⟩
 refine thn (hl.run pins s σ H _ I h) fun v s1 ⟨x,H1,I1,r1,q1⟩ => ?_
 rcases q1 with ⟨a,e,⟨xs,hq⟩,q⟩ | ⟨a,e,⟨xs,hq⟩,q⟩ | ⟨z,e,q⟩
 ·subst e
  cases r1
  obtain ⟨its,rv,p,hz⟩:=I1.list hq
  refine wpAny_pyIter_list p.isList ?_
  refine ⟨s1.heap.objs.size,[s1.heap.objs.size],_,_,H1,rfl,I1.kept (t':=s1.toks) fun b o e => Heap.get?_push_of_some _ e,turn_list a _,⟨_,Heap.get?_push_size _ rfl,rfl,rfl⟩,fun b hb => ?_,q⟩
  have e:b = s1.heap.objs.size:=by simpa using hb
  subst e
  exact I1.fpOk (Nat.le_refl _) (I1.hok.fresh (Nat.le_refl _))
 ·subst e
  cases r1
  obtain ⟨its,rv,p,hz⟩:=I1.tuple hq
  refine wpAny_pyIter_tuple (show s1.heap.IsTuple a its.toArray from p) ?_
  refine ⟨s1.heap.objs.size,[s1.heap.objs.size],_,_,H1,rfl,I1.kept (t':=s1.toks) fun b o e => Heap.get?_push_of_some _ e,turn_tuple a _,⟨_,Heap.get?_push_size _ rfl,rfl,rfl⟩,fun b hb => ?_,q⟩
  have e:b = s1.heap.objs.size:=by simpa using hb
  subst e
  exact I1.fpOk (Nat.le_refl _) (I1.hok.fresh (Nat.le_refl _))
 ·subst e
  obtain ⟨t,rfl⟩:=r1
  cases ha:z.cps.all (· < 128)
  ·exact wpAny_pyIter_wide ha (pi_one (tk:=s1.toks) I1 _ (turn_str _ z t "str_iterator" (.inr rfl)) ⟨_,Heap.get?_push_size _ rfl,rfl,rfl⟩ q)
  ·exact wpAny_pyIter_ascii ha (pi_one (tk:=s1.toks) I1 _ (turn_str _ z t "str_ascii_iterator" (.inl rfl)) ⟨_,Heap.get?_push_size _ rfl,rfl,rfl⟩ q)
theorem get_len {α : Type} {xs:List α} {i:Nat} (h:i < xs.length):∃ x,xs[i]? = some x:=⟨xs[i],List.getElem?_eq_getElem h⟩
theorem itr_ok {ι : List Addr} {H:Hp} {S:Sto} {p:PV} {x:V} {t:Wk} {R:It→Hp→Prop} (rs:RSt X.prog X.w X.K X.mg ι H S) (rp:Rp X.K ι H p x) (h:itrP p S = some t) (k:∀ J,ItOk X ι H t J→R J H) :
  (∃ a,x = .ref a∧(∃ xs,SqL X.K H a xs)∧R (Itl X.K a) H) ∨ (∃ a,x = .ref a∧(∃ xs,SqT X.K H a xs)∧R (Itt X.K a) H) ∨ ∃ z,x = .str z∧R (Its z) H:=by
 unfold itrP at h
 split at h
 ·rename_i xs
  cases h
  obtain ⟨a,vs,rfl,h1,h2⟩:=rp
  refine .inr (.inl ⟨a,rfl,⟨vs,h1.seq⟩,k _ fun i ι2 H2 S2 e r2 _ => ⟨fun hi => ?_,fun hi => ?_⟩⟩)
  ·have hi:i < xs.length:=hi
   obtain ⟨p,hp⟩:=get_len hi
   obtain ⟨v,hv,rv⟩:=h2.get hp
   exact ⟨⟨vs,v,(h1.upW e).seq,hv⟩,fun x H3 hy => by
    obtain ⟨rfl,hf⟩:=hy
    have e1:=hf vs (h1.upW e).seq
    rw [hv] at e1; cases e1
    exact ⟨p,hp,.refl,r2,Rp.upW e _ _ rv⟩⟩
  ·exact ⟨vs,(h1.upW e).seq,by rw [← h2.length]; exact hi⟩
 ·rename_i xs
  cases h
  obtain ⟨a,vs,rfl,h1,h2⟩:=rp
  refine .inl ⟨a,rfl,⟨vs,h1.seq⟩,k _ fun i ι2 H2 S2 e r2 _ => ⟨fun hi => ?_,fun hi => ?_⟩⟩
  ·have hi:i < xs.length:=hi
   obtain ⟨p,hp⟩:=get_len hi
   obtain ⟨v,hv,rv⟩:=h2.get hp
   exact ⟨⟨vs,v,(h1.upW e).seq,hv⟩,fun x H3 hy => by
    obtain ⟨rfl,hf⟩:=hy
    have e1:=hf vs (h1.upW e).seq
    rw [hv] at e1; cases e1
    exact ⟨p,hp,.refl,r2,Rp.upW e _ _ rv⟩⟩
  ·exact ⟨vs,(h1.upW e).seq,by rw [← h2.length]; exact hi⟩
 ·rename_i z
  cases h
  cases (show x = _ from rp)
  refine .inr (.inr ⟨z,rfl,k _ fun i ι2 H2 S2 e r2 _ => ⟨fun hi => ?_,fun hi => ?_⟩⟩)
  ·have hi':i < z.cps.size:=by simpa using hi
   exact ⟨hi',fun x H3 hy => by
    obtain ⟨rfl,c,hc,rfl⟩:=hy
    exact ⟨.str ⟨#[c]⟩,by simp [hc],.refl,r2,rfl⟩⟩
  ·show z.cps.size ≤ i
   simpa using hi
 ·split at h
  ·rename_i l _ xs eS
   cases h
   obtain ⟨a,rfl,h1⟩:=rp
   obtain ⟨vs0,h2,h3⟩:=rs.obj _ a _ h1 eS
   refine .inl ⟨a,rfl,⟨vs0,.of h2⟩,k _ fun i ι2 H2 S2 e r2 ok => ?_⟩
   have hS2:S2[l]? = some (.lst xs):=ok (l,.lst xs) (by simp)
   obtain ⟨vs,h4,h5⟩:=r2.obj l a _ (e.pre l a h1) hS2
   refine ⟨fun hi => ?_,fun hi => ?_⟩
   ·have hi:i < xs.length:=hi
    obtain ⟨p,hp⟩:=get_len hi
    obtain ⟨v,hv,rv⟩:=h5.get hp
    exact ⟨⟨vs,v,.of h4,hv⟩,fun x H3 hy => by
     obtain ⟨rfl,hf⟩:=hy
     have e1:=hf vs (.of h4)
     rw [hv] at e1; cases e1
     exact ⟨p,hp,.refl,r2,rv⟩⟩
   ·exact ⟨vs,.of h4,by rw [← h5.length]; exact hi⟩
  ·cases h
 ·cases h
theorem ri_seq (h:RE X W iter ma):RI X W tg iter (seqM ma):=⟨pi_weak (pi_any h.pe) fun σ H R hh => by
 obtain ⟨ι,τ,S,r,ρ,pk⟩:=hh
 refine ⟨ι,τ,S,r,ρ,pk.next.mono fun x H1 ⟨p,ι1,S1,e1,r1,q1,pk1⟩ => ?_⟩
 cases ht:itrP p S1 with
 | none => rw [ht] at pk1; exact pk1.elim
 | some t =>
  rw [ht] at pk1
  exact itr_ok r1 q1 ht fun J hJ => pk1 ι1 H1 J .refl r1 hJ⟩
def rngI (lo hi:Int):List PV:=(List.range (hi - lo).toNat).map fun (i:Nat) => PV.int (lo + (i:Int))
theorem rngI_len (lo hi:Int):(rngI lo hi).length = (hi - lo).toNat:=by unfold rngI; simp
def rngOk (i:Int):Prop:=-4611686018427387904 ≤ i∧i < 4611686018427387904
noncomputable instance (i:Int):Decidable (rngOk i):=Classical.propDecidable _
noncomputable def rng1M (m:EM PV):EM Wk:=fun τ S => bnd (m τ S) fun p S1 => match p with | .int n => if rngOk n then .ok ⟨rngI 0 n,[]⟩ S1 else .bad | _ => .bad
theorem rng_ok {ι : List Addr} {H:Hp} {lo hi:Int}:ItOk X ι H ⟨rngI lo hi,[]⟩ (L2.Itr lo (hi - lo).toNat):=fun i ι2 H2 S2 e r2 _ => by
 rw [show ({ items:=rngI lo hi,g:=[] }:Wk).items.length = (hi - lo).toNat from rngI_len lo hi]
 refine ⟨fun hi' => ⟨hi',fun x H3 hy => ?_⟩,fun h => h⟩
 obtain ⟨rfl,rfl⟩:=hy
 refine ⟨.int (lo + i),?_,.refl,r2,rfl⟩
 show (rngI lo hi)[i]? = _
 unfold rngI
 rw [List.getElem?_map,List.getElem?_range hi']; rfl
theorem ri_range1 {p:Pos} (hg:Gl X "range") (hm:X.mg "range" = none) (ha:RE X W a ma) (hs:starEach [a] X.env = [(false,eval a X.env)]:=by rfl):RI X W tg (.Call (.Name "range" p) [a] [] pos) (rng1M ma) :=
 ⟨pi_weak (pi_range1 hg hm (pa_cons ha.pe pa_nil hs) hs) fun σ H R hh => by
  obtain ⟨ι,τ,S,r,ρ,pk⟩:=hh
  refine ⟨ι,τ,S,r,ρ,pk.next.mono fun x H1 ⟨p,ι1,S1,e1,r1,q1,pk1⟩ => ?_⟩
  cases p with
  | int n =>
   simp only at pk1
   split at pk1
   ·rename_i hn
    obtain ⟨h1,h2⟩:=hn
    cases (show x = _ from q1)
    refine ⟨n,rfl,by omega,by omega,pk1 ι1 H1 _ .refl r1 ?_⟩
    have:=@rng_ok X ι1 H1 0 n
    rw [Int.sub_zero] at this
    exact this
   ·exact pk1.elim
  | _ => exact pk1.elim⟩
def enumI (xs:List PV):List PV:=(xs.zipIdx).map fun p => .tup [.int (p.2:Nat),p.1]
theorem enumI_at {xs:List PV} {i:Nat} {x:PV} (h:xs[i]? = some x):(enumI xs)[i]? = some (.tup [.int (i:Nat),x]):=by
 unfold enumI
 rw [List.getElem?_map,List.getElem?_zipIdx,h]
 simp
open Classical in
noncomputable def forL (t:Wk) (g:GM) (b:SM):List PV→SM
 | [] => fun τ S => if t.ok S then .nx τ S else .bad
 | p :: r => fun τ S => if t.ok S then (match g p τ with | some τ1 => seqO (b τ1 S) (forL t g b r) | none => .bad) else .bad
noncomputable def forS (m:EM Wk) (g:GM) (b:SM):SM:=fun τ S => bndS (m τ S) τ fun t S1 => forL t g b t.items τ S1
theorem drop_of_get {α : Type} {xs:List α} {i:Nat} {x : α} (h:xs[i]? = some x):xs.drop i = x :: xs.drop (i + 1):=by
 obtain ⟨hl,e⟩:=List.getElem?_eq_some_iff.mp h
 rw [List.drop_eq_getElem_cons hl,e]
theorem rs_for {m:EM Wk} {g:GM} {sl:List Nat} {b:SM} {body:List Stmt} (hp:PassesOwn (model X.prog X.w) X.A X.env X.xe) (hc:X.calm = true) (hi:RI X W tg iter m) (hg:RG X tg g sl) (hb:RSs X W body b)
  (hs:∀ x,foldedSetIterable iter X.env x = pure x:=by intro _; rfl):RS X W (.For tg iter body [] pos) (forS m g b):=by
 refine ⟨ps_weak (ps_for hp hc hi.pi hg.pg hb.pss hs) fun D σ H ⟨ι,τ,S,r,ρ,pk⟩ => ⟨ι,τ,S,r,ρ,(PkS.next (R:=ItOk X) ρ pk).mono ?_⟩⟩
 rintro J H1 ⟨t,ι1,S1,e1,r1,q1,pk1⟩
 refine ⟨fun i n σ H => ∃ ι τ S,Ext ι1 H1 ι H∧RSt X.prog X.w X.K X.mg ι H S∧REn X.K ι H τ σ∧n = t.items.length - i∧i ≤ t.items.length∧PkS X W D ι H (forL t g b (t.items.drop i) τ S),
  ⟨t.items.length,ι1,τ,S1,.refl,r1,ρ.up e1,by simp,Nat.zero_le _,by rw [List.drop_zero]; exact pk1⟩,?_⟩
 rintro i n σ2 H2 ⟨ι2,τ2,S2,e2,r2,ρ2,hn,hle,pk2⟩
 by_cases hlt:i < t.items.length
 ·obtain ⟨p,hp⟩:=get_len hlt
  rw [drop_of_get hp] at pk2
  unfold forL at pk2
  split at pk2
  ·rename_i ok
   obtain ⟨go,step⟩:=(q1 i ι2 H2 S2 e2.w r2 ok).1 hlt
   cases hgp:g p τ2 with
   | none => rw [hgp] at pk2; exact pk2.elim
   | some τ3 =>
    rw [hgp] at pk2
    unfold PkS at pk2
    rw [wpS_seqO] at pk2
    refine .inr ⟨go,fun σ' H' => ∃ ι τ S,Ext ι1 H1 ι H'∧RSt X.prog X.w X.K X.mg ι H' S∧REn X.K ι H' τ σ'∧PkS X W D ι H' (forL t g b (t.items.drop (i + 1)) τ S),fun σ' H' ⟨ι',τ',S',e',r',ρ',pk'⟩ => ⟨n - 1,by omega,ι',τ',S',e',r',ρ',by omega,by omega,pk'⟩,fun x H3 hy => ?_⟩
    obtain ⟨p',hp',E3,r3,rv3⟩:=step x H3 hy
    rw [hp] at hp'; cases hp'
    refine ⟨ι2,τ2,S2,p,τ3,r3,ρ2.up E3,rv3,hgp,fun σ3 ρ3 _ => ⟨ι2,τ3,S2,r3,ρ3,?_⟩⟩
    exact wpS_mono pk2 (fun τ' S' w ι' H' σ' e' r' ρ' => ⟨ι',τ',S',e2.trans (E3.trans e'),r',ρ',PkS.up (o:=forL t g b (t.items.drop (i + 1)) τ' S') w (E3.trans e')⟩)
     (fun v S' k ι' H' x e' => k ι' H' x (E3.trans e')) fun c p τ S k ι' H' σ' Ca d x e' => k ι' H' σ' Ca d x (E3.trans e')
  ·exact pk2.elim
 ·have hi':i = t.items.length:=by omega
  rw [hi',List.drop_length] at pk2
  unfold forL at pk2
  split at pk2
  ·rename_i ok
   exact .inl ⟨(q1 i ι2 H2 S2 e2.w r2 ok).2 (by omega),pk2 ι2 H2 σ2 .refl r2 ρ2⟩
  ·exact pk2.elim
def whileN (c:EM Bool) (b:SM):Nat→SM
 | 0 => fun _ _ => .bad
 | n + 1 => fun τ S => bndS (c τ S) τ fun k S1 => if k = true then seqO (b τ S1) (whileN c b n) else .nx τ S1
open Classical in
noncomputable def whileS (c:EM Bool) (b:SM):SM:=fun τ S => if h:∃ n,whileN c b n τ S ≠ .bad then whileN c b (choose h) τ S else .bad
theorem rs_while {b:SM} {body:List Stmt} (hp:PassesOwn (model X.prog X.w) X.A X.env X.xe) (hc:RT X W c tA) (hb:RSs X W body b):RS X W (.While c body [] pos) (whileS tA b):=by
 refine ⟨ps_weak (ps_while hp hc.pt hb.pss) fun D σ H ⟨ι,τ,S,r,ρ,pk⟩ => ?_⟩
 have hN:∃ n,PkS X W D ι H (whileN tA b n τ S):=by
  unfold whileS at pk
  split at pk
  ·exact ⟨_,pk⟩
  ·exact pk.elim
 refine ⟨fun n σ H => ∃ ι τ S,RSt X.prog X.w X.K X.mg ι H S∧REn X.K ι H τ σ∧PkS X W D ι H (whileN tA b n τ S),(let ⟨n,h⟩:=hN; ⟨n,ι,τ,S,r,ρ,h⟩),?_⟩
 rintro n σ1 H1 ⟨ι1,τ1,S1,r1,ρ1,pk1⟩
 cases n with
 | zero => exact pk1.elim
 | succ n =>
  refine ⟨ι1,τ1,S1,r1,ρ1,(PkS.next (R:=rB) ρ1 pk1).mono ?_⟩
  rintro k H2 ⟨k',ι2,S2,e2,r2,q2,pk2⟩
  have q2:k' = k:=q2
  subst q2
  cases k' with
  | false => exact pk2 ι2 H2 σ1 .refl r2 (ρ1.up e2)
  | true =>
   rw [if_pos rfl] at pk2 ⊢
   unfold PkS at pk2
   rw [wpS_seqO] at pk2
   refine ⟨fun σ' H' => ∃ ι τ S,RSt X.prog X.w X.K X.mg ι H' S∧REn X.K ι H' τ σ'∧PkS X W D ι H' (whileN tA b n τ S),fun σ' H' h => ⟨n,Nat.lt_succ_self n,h⟩,ι2,τ1,S2,r2,ρ1.up e2,?_⟩
   exact wpS_mono pk2 (fun τ' S' w ι' H' σ' e' r' ρ' => ⟨ι',τ',S',r',ρ',PkS.up (o:=whileN tA b n τ' S') w e'⟩) (fun _ _ k => k) fun _ _ _ _ k => k
def wipeE (τ : En):List Nat→En
 | [] => τ
 | v :: vs => (wipeE τ vs).set v none
theorem REn.wipe {K:PySem.W.Frag} {ι : List Addr} {H:Hp} {τ : En} {σ : L2.St} (h:REn K ι H τ σ):∀ vs,REn K ι H (wipeE τ vs) (wipe σ vs)
 | [] => h
 | v :: vs => (REn.wipe h vs).unset v
structure RTs (X:Cx) (W:WX) (ifs:List Expr) (m:EM Bool):Prop where
 pts:PTs X ifs (gE X W rB m)
def yesM:EM Bool:=fun _ S => .ok true S
theorem pts_weak {ifs:List Expr} {t t':TT} (h:PTs X ifs t) (w:∀ σ H Q,t' σ H Q→t σ H Q):PTs X ifs t':=⟨fun pins s σ H Q I hh => h.run pins s σ H Q I (w σ H Q hh)⟩
theorem rts_nil:RTs X W [] yesM:=⟨pts_weak pts_nil fun σ H Q ⟨ι,τ,S,r,ρ,pk⟩ => pk ι H true .refl r rfl⟩
theorem rts_one (h:RT X W c tA):RTs X W [c] tA:=⟨pts_one h.pt⟩
abbrev W0:WX:=fun _ _ _ _ => False
def noEr {α : Type} (o:Out α):Out α:=match o with
 | .ok a S => .ok a S
 | _ => .bad
@[simp] theorem noEr_ok {α : Type} (a : α) (S:Sto):noEr (.ok a S) = .ok a S:=rfl
@[simp] theorem noEr_bad {α : Type}:noEr (.bad:Out α) = .bad:=rfl
@[simp] theorem noEr_er {α : Type} (c:Str) (p:PV) (S:Sto):noEr (.er c p S:Out α) = .bad:=rfl
theorem wipe_wipe {σ : L2.St}:∀ vs:List Nat,wipe (wipe σ vs) vs = wipe σ vs:=by
 have set_wipe:∀ (ws:List Nat) (σ : L2.St) (i:Nat),wipe (σ.set i none) ws = (wipe σ ws).set i none:=by
  intro ws
  induction ws with
  | nil => intro σ i; rfl
  | cons w ws ih =>
   intro σ i
   unfold wipe
   rw [ih]
   by_cases e:i = w
   ·subst e; rfl
   ·rw [List.set_comm _ _ e]
 intro vs
 induction vs with
 | nil => rfl
 | cons v vs ih =>
  show (wipe ((wipe σ vs).set v none) vs).set v none = _
  rw [set_wipe,ih,List.set_set]
  rfl
def stepE (tt:EM Bool) (el:EM PV):List PV→En→Sto→Out (List PV):=fun acc τ S => bnd (noEr (tt τ S)) fun k S1 =>
 if k = true then bnd (noEr (el τ S1)) fun y S2 => if acc.length < 16777216 then .ok (acc ++ [y]) S2 else .bad else .ok acc S1
open Classical in
noncomputable def accL (t:Wk) (g:GM) (step:List PV→En→Sto→Out (List PV)):List PV→List PV→En→Sto→Out (List PV)
 | acc,[] => fun _ S => if t.ok S then .ok acc S else .bad
 | acc,p :: r => fun τ S => if t.ok S then (match g p τ with | some τ1 => bnd (step acc τ1 S) fun acc' S1 => accL t g step acc' r τ S1 | none => .bad) else .bad
open Classical in
theorem accL_cons (t:Wk) (g:GM) (step:List PV→En→Sto→Out (List PV)) (acc:List PV) (p:PV) (r:List PV) (τ : En) (S:Sto):accL t g step acc (p :: r) τ S =
  if t.ok S then (match g p τ with | some τ1 => bnd (step acc τ1 S) fun acc' S1 => accL t g step acc' r τ S1 | none => .bad) else .bad:=rfl
open Classical in
theorem accL_nil (t:Wk) (g:GM) (step:List PV→En→Sto→Out (List PV)) (acc:List PV) (τ : En) (S:Sto):accL t g step acc [] τ S = if t.ok S then .ok acc S else .bad:=rfl
def newL (o:Out (List PV)):Out PV:=bnd o fun acc S => .ok (.loc S.length) (S ++ [.lst acc])
noncomputable def compM (m:EM Wk) (g:GM) (tt:EM Bool) (el:EM PV) (vs:List Nat):EM PV:=fun τ S => bnd (m τ S) fun t S1 => newL (accL t g (stepE tt el) [] t.items (wipeE τ vs) S1)
structure Dl (K:PySem.W.Frag) (ι : List Addr) (H:Hp) (D:Addr) (acc:List PV):Prop where
 nin:D ∉ ι
 obj:∃ vs,H D = some (.lst vs)∧RpL K ι H acc vs
theorem Dl.up {ι ι':List Addr} {H H':Hp} {D:Addr} {acc:List PV} (d:Dl X.K ι H D acc) (e:Ext ι H ι' H'):Dl X.K ι' H' D acc:=by
 obtain ⟨vs,h1,h2⟩:=d.obj
 refine ⟨fun hm => ?_,vs,e.fr D _ h1 d.nin,h2.up e⟩
 rcases e.new D hm with q | q
 ·exact d.nin q
 ·rw [h1] at q; cases q
theorem extW_upd {ι : List Addr} {H:Hp} {vs ws:List V} (h:H D = some (.lst vs)):ExtW ι H ι (upd H D (.lst ws)) :=
 ⟨fun _ _ h => h,fun a xs e => by rw [upd_ne (fun z => by subst z; rw [h] at e; cases e)]; exact e,fun a o u e => by rw [upd_ne (fun z => by subst z; rw [h] at e; cases e)]; exact e⟩
theorem Dl.write {ι1 ι : List Addr} {H1 H:Hp} {S:Sto} {D:Addr} {vs ws:List V} {acc:List PV} (hD:H1 D = none) (e:Ext ι1 H1 ι H) (r:RSt X.prog X.w X.K X.mg ι H S) (nin:D ∉ ι) (h:H D = some (.lst vs)) (h2:RpL X.K ι H acc ws) :
  Ext ι1 H1 ι (upd H D (.lst ws))∧RSt X.prog X.w X.K X.mg ι (upd H D (.lst ws)) S∧Dl X.K ι (upd H D (.lst ws)) D acc∧ExtW ι H ι (upd H D (.lst ws)):=by
 have eb:ExtW ι H ι (upd H D (.lst ws)):=extW_upd h
 refine ⟨⟨e.pre,fun a o q n => ?_,e.new,fun a xs q => ?_,fun a o u q => ?_⟩,⟨r.len,r.nd,fun l a o e1 e2 => ?_⟩,⟨nin,ws,upd_same,RpL.upW eb _ _ h2⟩,eb⟩
 ·rw [upd_ne (ne_of_none q hD)]; exact e.fr a o q n
 ·rw [upd_ne (ne_of_none q hD)]; exact e.tups a xs q
 ·rw [upd_ne (ne_of_none q hD)]; exact e.frzs a o u q
 ·have hne:a ≠ D:=fun z => nin (z ▸ List.mem_of_getElem? e1)
  have ho:=r.obj l a o e1 e2
  have k:upd H D (.lst ws) a = H a:=upd_ne hne
  cases o with
  | lst xs => obtain ⟨vs,q,r⟩:=ho; exact ⟨vs,k.trans q,RpL.upW eb _ _ r⟩
  | dct xs => obtain ⟨vs,q,r⟩:=ho; exact ⟨vs,k.trans q,RpF.upW eb r⟩
  | ins C fs => obtain ⟨Ca,dx,ws,m,q,r⟩:=ho; exact ⟨Ca,dx,ws,m,k.trans q,RpF.upW eb r⟩
  | dtp xs => obtain ⟨vs,q,z,r⟩:=ho; exact ⟨vs,k.trans q,fun x hx => (z x hx).upW eb,RpF.upW eb r⟩
  | tab nm q => exact ⟨TabZ.to ho.1 k eb.frzs,ho.2⟩
  | exc C p => obtain ⟨oe,Ca,dd,x,q,m,c1,c2,c3,nd,hd,r⟩:=ho; exact ⟨oe,Ca,dd,x,k.trans q,m,c1,c2,c3,nd,(upd_ne fun z => by rw [z,h] at hd; cases hd).trans hd,Rp.upW eb _ _ r⟩
  | ndt xs => obtain ⟨vs,q,z,r⟩:=ho; exact ⟨vs,k.trans q,fun x hx => ⟨(z x hx).1,(z x hx).2.mono eb.frzs⟩,RpF.upW eb r⟩
theorem Dl.adopt {ι1 ι : List Addr} {H1 H:Hp} {S:Sto} {D:Addr} {acc:List PV} (hD:H1 D = none) (e:Ext ι1 H1 ι H) (r:RSt X.prog X.w X.K X.mg ι H S) (d:Dl X.K ι H D acc) :
  Ext ι1 H1 (ι ++ [D]) H∧RSt X.prog X.w X.K X.mg (ι ++ [D]) H (S ++ [.lst acc])∧Rp X.K (ι ++ [D]) H (.loc S.length) (.ref D):=by
 have pre:∀ (l:Nat) (a:Addr),ι[l]? = some a→(ι ++ [D])[l]? = some a:=fun l a h => by
  rw [List.getElem?_append_left (List.getElem?_eq_some_iff.mp h).1]; exact h
 have eb:ExtW ι H (ι ++ [D]) H:=⟨pre,fun _ _ h => h,fun _ _ _ h => h⟩
 obtain ⟨vs,h1,h2⟩:=d.obj
 refine ⟨⟨fun l a h => pre l a (e.pre l a h),e.fr,fun a m => ?_,e.tups,e.frzs⟩,⟨by simp [r.len],List.nodup_append.mpr ⟨r.nd,by simp,fun x hx y hy => by simp at hy; subst hy; exact fun z => d.nin (z ▸ hx)⟩,fun l' a' o' e1 e2 => ?_⟩,D,rfl,by rw [← r.len]; simp⟩
 ·rcases List.mem_append.mp m with q | q
  ·exact e.new a q
  ·have:a = D:=by simpa using q
   subst this; exact .inr hD
 ·by_cases hl:l' < ι.length
  ·rw [List.getElem?_append_left hl] at e1
   rw [List.getElem?_append_left (by rw [← r.len]; exact hl)] at e2
   have ho:=r.obj l' a' o' e1 e2
   cases o' with
   | lst xs => obtain ⟨vs,q,r⟩:=ho; exact ⟨vs,q,RpL.upW eb _ _ r⟩
   | dct xs => obtain ⟨vs,q,r⟩:=ho; exact ⟨vs,q,RpF.upW eb r⟩
   | ins C fs => obtain ⟨Ca,dx,ws,m,q,r⟩:=ho; exact ⟨Ca,dx,ws,m,q,RpF.upW eb r⟩
   | dtp xs => obtain ⟨vs,q,z,r⟩:=ho; exact ⟨vs,q,fun x hx => (z x hx).upW eb,RpF.upW eb r⟩
   | tab nm q => exact ⟨TabZ.to ho.1 rfl eb.frzs,ho.2⟩
   | exc C p => obtain ⟨oe,Ca,dd,x,q,m,c1,c2,c3,nd,hd,r⟩:=ho; exact ⟨oe,Ca,dd,x,q,m,c1,c2,c3,(fun z => (List.mem_append.mp z).elim nd fun z => by (have z:dd = D:=by simpa using z); rw [z,h1] at hd; cases hd),hd,Rp.upW eb _ _ r⟩
   | ndt xs => obtain ⟨vs,q,z,r⟩:=ho; exact ⟨vs,q,fun x hx => ⟨(z x hx).1,(z x hx).2.mono eb.frzs⟩,RpF.upW eb r⟩
  ·rw [List.getElem?_append_right (by omega)] at e1
   rw [List.getElem?_append_right (by rw [← r.len]; omega)] at e2
   have h0:l' - ι.length = 0:=by
    have:=(List.getElem?_eq_some_iff.mp e1).1
    simp at this; omega
   have h0':l' - S.length = 0:=by rw [← r.len]; exact h0
   rw [h0] at e1; rw [h0'] at e2
   simp at e1 e2
   subst e1; subst e2
   exact ⟨vs,h1,RpL.upW eb _ _ h2⟩
theorem lc_read {m:EM Wk} {g:GM} {sl:List Nat} {tt:EM Bool} {el:EM PV} {vs:List Nat} (hsl:∀ i ∈ sl,i ∈ vs) (σ : L2.St) (H:Hp) (Q:VK) (h:gE X W (rV X) (compM m g tt el vs) σ H Q) :
  tLc (gE X W (ItOk X) m) (gG X g sl) (gE X W0 rB tt) (gE X W0 (rV X) el) vs σ H Q:=by
 obtain ⟨ι,τ,S,r,ρ,pk⟩:=h
 refine ⟨ι,τ,S,r,ρ,pk.next.mono ?_⟩
 rintro J H1 ⟨t,ι1,S1,e1,r1,q1,pk1⟩
 intro D hD
 have ρ1:=(ρ.up e1).wipe vs
 obtain ⟨E0,r0⟩:=r1.tup (ho:=.lst []) hD
 have nD:D ∉ ι1:=fun hm => by
  obtain ⟨l0,o0,_,_,h3⟩:=r1.mem hm
  exact h3.mut.2.1 hD
 refine ⟨fun i n H => ∃ ι S acc,Ext ι1 H1 ι H∧RSt X.prog X.w X.K X.mg ι H S∧REn X.K ι H (wipeE τ vs) (wipe σ vs)∧Dl X.K ι H D acc∧n = t.items.length - i∧i ≤ t.items.length ∧
   Pk X W (rV X) σ Q ι1 H1 (newL (accL t g (stepE tt el) acc (t.items.drop i) (wipeE τ vs) S)),
  ⟨t.items.length,ι1,S1,[],E0,r0,ρ1.up E0,⟨nD,[],upd_same,rfl⟩,by simp,Nat.zero_le _,by rw [List.drop_zero]; exact pk1⟩,?_⟩
 rintro i n H2 ⟨ι2,S2,acc,e2,r2,ρ2,d2,hn,hle,pk2⟩
 by_cases hlt:i < t.items.length
 ·obtain ⟨p,hp⟩:=get_len hlt
  rw [drop_of_get hp] at pk2
  unfold accL at pk2
  split at pk2
  ·rename_i ok
   obtain ⟨go,step⟩:=(q1 i ι2 H2 S2 e2.w r2 ok).1 hlt
   cases hgp:g p (wipeE τ vs) with
   | none => rw [hgp] at pk2; exact pk2.elim
   | some τ3 =>
    rw [hgp] at pk2
    refine .inr ⟨go,fun H' => ∃ ι S acc,Ext ι1 H1 ι H'∧RSt X.prog X.w X.K X.mg ι H' S∧REn X.K ι H' (wipeE τ vs) (wipe σ vs)∧Dl X.K ι H' D acc∧Pk X W (rV X) σ Q ι1 H1 (newL (accL t g (stepE tt el) acc (t.items.drop (i + 1)) (wipeE τ vs) S)),
     fun H' ⟨ι',S',acc',e',r',ρ',d',pk'⟩ => ⟨n - 1,by omega,ι',S',acc',e',r',ρ',d',by omega,by omega,pk'⟩,fun x H3 hy => ?_⟩
    obtain ⟨p',hp',E3,r3,rv3⟩:=step x H3 hy
    rw [hp] at hp'; cases hp'
    refine ⟨ι2,wipeE τ vs,S2,p,τ3,r3,ρ2.up E3,rv3,hgp,fun σ3 ρ3 c3 => ⟨c3 vs hsl |>.trans (by rw [wipe_wipe]),ι2,τ3,S2,r3,ρ3,?_⟩⟩
    cases ht:tt τ3 S2 with
    | bad => simp only [stepE,ht,noEr_bad,bnd_bad,newL] at pk2; exact pk2.elim
    | er c p S' => simp only [stepE,ht,noEr_er,bnd_bad,newL] at pk2; exact pk2.elim
    | ok k S4 =>
     show ∀ ι' H' x,Ext ι2 H3 ι' H'→RSt X.prog X.w X.K X.mg ι' H' S4→k = x→_
     rintro ι4 H4 k' E4 r4 rfl
     simp only [stepE,ht,noEr_ok,bnd_ok] at pk2
     cases k with
     | false =>
      rw [if_neg Bool.false_ne_true] at pk2 ⊢
      exact ⟨ι4,S4,acc,(e2.trans E3).trans E4,r4,(ρ2.up E3).up E4,(d2.up E3).up E4,pk2⟩
     | true =>
      rw [if_pos rfl] at pk2 ⊢
      refine ⟨ι4,τ3,S4,r4,ρ3.up E4,?_⟩
      cases hel:el τ3 S4 with
      | bad => simp only [hel,noEr_bad,bnd_bad,newL] at pk2; exact pk2.elim
      | er c p S' => simp only [hel,noEr_er,bnd_bad,newL] at pk2; exact pk2.elim
      | ok y S5 =>
       show ∀ ι' H' x,Ext ι4 H4 ι' H'→RSt X.prog X.w X.K X.mg ι' H' S5→Rp X.K ι' H' y x→_
       intro ι5 H5 yv E5 r5 q5
       simp only [hel,noEr_ok,bnd_ok] at pk2
       split at pk2
       ·rename_i hacc
        have d5:=((d2.up E3).up E4).up E5
        obtain ⟨ws,h1,h2⟩:=d5.obj
        obtain ⟨E6,r6,d6,b6⟩:=Dl.write (acc:=acc ++ [y]) (ws:=ws ++ [yv]) hD (((e2.trans E3).trans E4).trans E5) r5 d5.nin h1 (h2.app (RpL.one q5))
        refine ⟨ws,h1,by rw [← h2.length,sizeLine_eq]; exact hacc,ι5,S5,acc ++ [y],E6,r6,REn.upW b6 (((ρ2.up E3).up E4).up E5),d6,pk2⟩
       ·exact pk2.elim
  ·exact pk2.elim
 ·have hi':i = t.items.length:=by omega
  rw [hi',List.drop_length] at pk2
  unfold accL at pk2
  split at pk2
  ·rename_i ok
   obtain ⟨E,r',q'⟩:=Dl.adopt hD e2 r2 d2
   exact .inl ⟨(q1 i ι2 H2 S2 e2.w r2 ok).2 (by omega),pk2 _ _ _ E r' q'⟩
  ·exact pk2.elim
end
end PL
namespace PL
open PySem PySem.Spec PyProof.Rows L2
section
variable {X:Cx} {W:WX} {a b c e o tg iter:Expr} {es rest:List Expr} {ma mb mc mo:EM PV} {tA tB':EM Bool} {mas:EM (List PV)} {pos apos cpos p2:Pos}
theorem re_lc {elt:Expr} {ifs:List Expr} {scope:Scope} {own:List (Str × Nat)} {m:EM Wk} {g:GM} {sl:List Nat} {tt:EM Bool} {el:EM PV} (hc:X.calm = true) (hN:X.N.Nodup) (hi:RI X W tg iter m) (ok:BlkOk X.N X.env.scope scope own)
  (hg:∀ (s:Shared) (H:Hp) (C:Addr) (cl:List (Str × Addr)) (fp:List Addr),RG (X.blk s H scope (compEnvC scope cl C X.env) fp) tg g sl) (ht:∀ (s:Shared) (H:Hp) (C:Addr) (cl:List (Str × Addr)) (fp:List Addr),RTs (X.blk s H scope (compEnvC scope cl C X.env) fp) W0 ifs tt)
  (he:∀ (s:Shared) (H:Hp) (C:Addr) (cl:List (Str × Addr)) (fp:List Addr),RE (X.blk s H scope (compEnvC scope cl C X.env) fp) W0 elt el) (hsl:∀ i ∈ sl,i ∈ own.map (·.2)) (hs:∀ x,foldedSetIterable iter X.env x = pure x:=by intro _; rfl) :
  RE X W (.ListComp elt [⟨tg,iter,ifs,0⟩] scope pos) (compM m g tt el (own.map (·.2))) :=
 ⟨pe_weak (pe_lc hc hN hi.pi ok (fun s H C cl fp => (hg s H C cl fp).pg) (fun s H C cl fp => (ht s H C cl fp).pts) (fun s H C cl fp => (he s H C cl fp).pe) hs) fun σ H Q h => lc_read hsl σ H Q h⟩
theorem rs_setLc (i:Nat) {y:Str} {py spos:Pos} {elt:Expr} {ifs:List Expr} {scope:Scope} {own:List (Str × Nat)} {m:EM Wk} {g:GM} {sl:List Nat} {tt:EM Bool} {el:EM PV} (hc:X.calm = true) (hN:X.N.Nodup) (hy:X.N[i]? = some y) (hyl:X.env.scope.names.lookup y = some .local)
  (hsw:swapsWith (.ListComp elt [⟨tg,iter,ifs,0⟩] scope pos) (some (.Name y py)) spos.line X.env = pure true) (hi:RI X W tg iter m) (ok:BlkOk X.N X.env.scope scope own)
  (hg:∀ (s:Shared) (H:Hp) (C:Addr) (cl:List (Str × Addr)) (fp:List Addr),RG (X.blk s H scope (compEnvC scope cl C X.env) fp) tg g sl) (ht:∀ (s:Shared) (H:Hp) (C:Addr) (cl:List (Str × Addr)) (fp:List Addr),RTs (X.blk s H scope (compEnvC scope cl C X.env) fp) W0 ifs tt)
  (he:∀ (s:Shared) (H:Hp) (C:Addr) (cl:List (Str × Addr)) (fp:List Addr),RE (X.blk s H scope (compEnvC scope cl C X.env) fp) W0 elt el) (hsl:∀ i ∈ sl,i ∈ own.map (·.2)) (hs:∀ x,foldedSetIterable iter X.env x = pure x:=by intro _; rfl) :
  RS X W (.Assign [.Name y py] (.ListComp elt [⟨tg,iter,ifs,0⟩] scope pos) spos) (asgS (compM m g tt el (own.map (·.2))) (gN i)) :=
 ⟨ps_weak (ps_setLc hc hN hy hyl hsw hi.pi ok (fun s H C cl fp => (hg s H C cl fp).pg) (fun s H C cl fp => (ht s H C cl fp).pts) (fun s H C cl fp => (he s H C cl fp).pe) hs) fun D σ H h => by
  obtain ⟨ι,τ,S,r,ρ,pk⟩:=h
  exact lc_read hsl σ H _ ⟨ι,τ,S,r,ρ,(PkS.next (R:=rV X) ρ pk).mono fun x H1 ⟨p,ι1,S1,e1,r1,q1,pk1⟩ => pk1 ι1 H1 _ .refl r1 ((ρ.up e1).set i q1)⟩⟩
noncomputable def stepI (tt:EM Bool) (m1:EM Wk) (g1:GM) (tt1:EM Bool) (el:EM PV) (vs1:List Nat):List PV→En→Sto→Out (List PV):=fun acc τ S => bnd (noEr (tt τ S)) fun k S1 =>
 if k = true then bnd (noEr (m1 τ S1)) fun t1 S2 => accL t1 g1 (stepE tt1 el) acc t1.items (wipeE τ vs1) S2 else .ok acc S1
noncomputable def comp2M (m:EM Wk) (g:GM) (tt:EM Bool) (m1:EM Wk) (g1:GM) (tt1:EM Bool) (el:EM PV) (vs vs1:List Nat):EM PV:=fun τ S => bnd (m τ S) fun t S1 => newL (accL t g (stepI tt m1 g1 tt1 el vs1) [] t.items (wipeE τ vs) S1)
theorem lc2_read {m m1:EM Wk} {g g1:GM} {sl sl1:List Nat} {tt tt1:EM Bool} {el:EM PV} {vs vs1:List Nat} (hsl:∀ i ∈ sl,i ∈ vs) (hsl1:∀ i ∈ sl1,i ∈ vs1) (σ : L2.St) (H:Hp) (Q:VK) (h:gE X W (rV X) (comp2M m g tt m1 g1 tt1 el vs vs1) σ H Q) :
  tLc2 (gE X W (ItOk X) m) (gG X g sl) (gE X W0 rB tt) (gE X W0 (ItOk X) m1) (gG X g1 sl1) (gE X W0 rB tt1) (gE X W0 (rV X) el) vs vs1 σ H Q:=by
 obtain ⟨ι,τ,S,r,ρ,pk⟩:=h
 refine ⟨ι,τ,S,r,ρ,pk.next.mono ?_⟩
 rintro J H1 ⟨t,ι1,S1,e1,r1,q1,pk1⟩
 intro D hD
 have ρ1:=(ρ.up e1).wipe vs
 obtain ⟨E0,r0⟩:=r1.tup (ho:=.lst []) hD
 have nD:D ∉ ι1:=fun hm => by
  obtain ⟨l0,o0,_,_,h3⟩:=r1.mem hm
  exact h3.mut.2.1 hD
 refine ⟨fun i n H => ∃ ι S acc,Ext ι1 H1 ι H∧RSt X.prog X.w X.K X.mg ι H S∧REn X.K ι H (wipeE τ vs) (wipe σ vs)∧Dl X.K ι H D acc∧n = t.items.length - i∧i ≤ t.items.length ∧
   Pk X W (rV X) σ Q ι1 H1 (newL (accL t g (stepI tt m1 g1 tt1 el vs1) acc (t.items.drop i) (wipeE τ vs) S)),
  ⟨t.items.length,ι1,S1,[],E0,r0,ρ1.up E0,⟨nD,[],upd_same,rfl⟩,by simp,Nat.zero_le _,by rw [List.drop_zero]; exact pk1⟩,?_⟩
 rintro i n H2 ⟨ι2,S2,acc,e2,r2,ρ2,d2,hn,hle,pk2⟩
 by_cases hlt:i < t.items.length
 ·obtain ⟨p,hp⟩:=get_len hlt
  rw [drop_of_get hp] at pk2
  unfold accL at pk2
  split at pk2
  ·rename_i ok
   obtain ⟨go,step⟩:=(q1 i ι2 H2 S2 e2.w r2 ok).1 hlt
   cases hgp:g p (wipeE τ vs) with
   | none => rw [hgp] at pk2; exact pk2.elim
   | some τ3 =>
    rw [hgp] at pk2
    refine .inr ⟨go,fun H' => ∃ ι S acc,Ext ι1 H1 ι H'∧RSt X.prog X.w X.K X.mg ι H' S∧REn X.K ι H' (wipeE τ vs) (wipe σ vs)∧Dl X.K ι H' D acc∧Pk X W (rV X) σ Q ι1 H1 (newL (accL t g (stepI tt m1 g1 tt1 el vs1) acc (t.items.drop (i + 1)) (wipeE τ vs) S)),
     fun H' ⟨ι',S',acc',e',r',ρ',d',pk'⟩ => ⟨n - 1,by omega,ι',S',acc',e',r',ρ',d',by omega,by omega,pk'⟩,fun x H3 hy => ?_⟩
    obtain ⟨p',hp',E3,r3,rv3⟩:=step x H3 hy
    rw [hp] at hp'; cases hp'
    refine ⟨ι2,wipeE τ vs,S2,p,τ3,r3,ρ2.up E3,rv3,hgp,fun σ3 ρ3 c3 => ⟨c3 vs hsl |>.trans (by rw [wipe_wipe]),ι2,τ3,S2,r3,ρ3,?_⟩⟩
    cases ht:tt τ3 S2 with
    | bad => simp only [stepI,ht,noEr_bad,bnd_bad,newL] at pk2; exact pk2.elim
    | er c p S' => simp only [stepI,ht,noEr_er,bnd_bad,newL] at pk2; exact pk2.elim
    | ok k S4 =>
     show ∀ ι' H' x,Ext ι2 H3 ι' H'→RSt X.prog X.w X.K X.mg ι' H' S4→k = x→_
     rintro ι4 H4 k' E4 r4 rfl
     simp only [stepI,ht,noEr_ok,bnd_ok] at pk2
     cases k with
     | false =>
      rw [if_neg Bool.false_ne_true] at pk2 ⊢
      exact ⟨ι4,S4,acc,(e2.trans E3).trans E4,r4,(ρ2.up E3).up E4,(d2.up E3).up E4,pk2⟩
     | true =>
      rw [if_pos rfl] at pk2 ⊢
      refine ⟨ι4,τ3,S4,r4,ρ3.up E4,?_⟩
      cases hm1:m1 τ3 S4 with
      | bad => simp only [hm1,noEr_bad,bnd_bad,newL] at pk2; exact pk2.elim
      | er c p S' => simp only [hm1,noEr_er,bnd_bad,newL] at pk2; exact pk2.elim
      | ok t1 S5 =>
       show ∀ ι' H' x,Ext ι4 H4 ι' H'→RSt X.prog X.w X.K X.mg ι' H' S5→ItOk X ι' H' t1 x→_
       intro ι5 H5 J1 E5 r5 q5
       simp only [hm1,noEr_ok,bnd_ok] at pk2
       have ρ5:=(((ρ3.up E4).up E5)).wipe vs1
       have ρo:=((ρ2.up E3).up E4).up E5
       have d5:=((d2.up E3).up E4).up E5
       have e5:=((e2.trans E3).trans E4).trans E5
       refine ⟨fun j l H => ∃ ι S acc,Ext ι1 H1 ι H∧ExtW ι5 H5 ι H∧RSt X.prog X.w X.K X.mg ι H S∧REn X.K ι H (wipeE τ vs) (wipe σ vs)∧REn X.K ι H (wipeE τ3 vs1) (wipe σ3 vs1)∧Dl X.K ι H D acc∧l = t1.items.length - j∧j ≤ t1.items.length ∧
         Pk X W (rV X) σ Q ι1 H1 (newL (bnd (accL t1 g1 (stepE tt1 el) acc (t1.items.drop j) (wipeE τ3 vs1) S) fun acc' S1 => accL t g (stepI tt m1 g1 tt1 el vs1) acc' (t.items.drop (i + 1)) (wipeE τ vs) S1)),
        ⟨t1.items.length,ι5,S5,acc,e5,.refl,r5,ρo,ρ5,d5,by simp,Nat.zero_le _,by rw [List.drop_zero]; exact pk2⟩,?_⟩
       rintro j l H6 ⟨ι6,S6,acc6,e6,b6,r6,ρo6,ρ6,d6,hl6,hle6,pk6⟩
       by_cases hlt6:j < t1.items.length
       ·obtain ⟨p6,hp6⟩:=get_len hlt6
        rw [drop_of_get hp6,accL_cons] at pk6
        split at pk6
        ·rename_i ok6
         obtain ⟨go6,step6⟩:=(q5 j ι6 H6 S6 b6 r6 ok6).1 hlt6
         cases hgp6:g1 p6 (wipeE τ3 vs1) with
         | none => rw [hgp6] at pk6; exact pk6.elim
         | some τ7 =>
          rw [hgp6] at pk6
          refine .inr ⟨go6,fun H' => ∃ ι S acc,Ext ι1 H1 ι H'∧ExtW ι5 H5 ι H'∧RSt X.prog X.w X.K X.mg ι H' S∧REn X.K ι H' (wipeE τ vs) (wipe σ vs)∧REn X.K ι H' (wipeE τ3 vs1) (wipe σ3 vs1)∧Dl X.K ι H' D acc ∧
            Pk X W (rV X) σ Q ι1 H1 (newL (bnd (accL t1 g1 (stepE tt1 el) acc (t1.items.drop (j + 1)) (wipeE τ3 vs1) S) fun acc' S1 => accL t g (stepI tt m1 g1 tt1 el vs1) acc' (t.items.drop (i + 1)) (wipeE τ vs) S1)),
           fun H' ⟨ι',S',acc',e',b',r',ρo',ρ',d',pk'⟩ => ⟨l - 1,by omega,ι',S',acc',e',b',r',ρo',ρ',d',by omega,by omega,pk'⟩,fun x H7 hy => ?_⟩
          obtain ⟨p',hp',E7,r7,rv7⟩:=step6 x H7 hy
          rw [hp6] at hp'; cases hp'
          refine ⟨ι6,wipeE τ3 vs1,S6,p6,τ7,r7,ρ6.up E7,rv7,hgp6,fun σ7 ρ7 c7 => ⟨c7 vs1 hsl1 |>.trans (by rw [wipe_wipe]),ι6,τ7,S6,r7,ρ7,?_⟩⟩
          cases ht7:tt1 τ7 S6 with
          | bad => simp only [stepE,ht7,noEr_bad,bnd_bad,newL] at pk6; exact pk6.elim
          | er c p S' => simp only [stepE,ht7,noEr_er,bnd_bad,newL] at pk6; exact pk6.elim
          | ok k S8 =>
           show ∀ ι' H' x,Ext ι6 H7 ι' H'→RSt X.prog X.w X.K X.mg ι' H' S8→k = x→_
           rintro ι8 H8 k' E8 r8 rfl
           simp only [stepE,ht7,noEr_ok,bnd_ok] at pk6
           cases k with
           | false =>
            rw [if_neg Bool.false_ne_true] at pk6 ⊢
            exact ⟨ι8,S8,acc6,(e6.trans E7).trans E8,(b6.trans E7.w).trans E8.w,r8,(ρo6.up E7).up E8,(ρ6.up E7).up E8,(d6.up E7).up E8,pk6⟩
           | true =>
            rw [if_pos rfl] at pk6 ⊢
            refine ⟨ι8,τ7,S8,r8,ρ7.up E8,?_⟩
            cases hel:el τ7 S8 with
            | bad => simp only [hel,noEr_bad,bnd_bad,newL] at pk6; exact pk6.elim
            | er c p S' => simp only [hel,noEr_er,bnd_bad,newL] at pk6; exact pk6.elim
            | ok y S9 =>
             show ∀ ι' H' x,Ext ι8 H8 ι' H'→RSt X.prog X.w X.K X.mg ι' H' S9→Rp X.K ι' H' y x→_
             intro ι9 H9 yv E9 r9 q9
             simp only [hel,noEr_ok,bnd_ok] at pk6
             split at pk6
             ·rename_i hacc
              have d9:=((d6.up E7).up E8).up E9
              obtain ⟨ws,h1,h2⟩:=d9.obj
              obtain ⟨E10,r10,d10,b10⟩:=Dl.write (acc:=acc6 ++ [y]) (ws:=ws ++ [yv]) hD (((e6.trans E7).trans E8).trans E9) r9 d9.nin h1 (h2.app (RpL.one q9))
              exact ⟨ws,h1,by rw [← h2.length,sizeLine_eq]; exact hacc,ι9,S9,acc6 ++ [y],E10,(((b6.trans E7.w).trans E8.w).trans E9.w).trans b10,r10,REn.upW b10 (((ρo6.up E7).up E8).up E9),REn.upW b10 (((ρ6.up E7).up E8).up E9),d10,pk6⟩
             ·exact pk6.elim
        ·exact pk6.elim
       ·have hi':j = t1.items.length:=by omega
        rw [hi',List.drop_length,accL_nil] at pk6
        split at pk6
        ·rename_i ok6
         exact .inl ⟨(q5 j ι6 H6 S6 b6 r6 ok6).2 (by omega),ι6,S6,acc6,e6,r6,ρo6,d6,pk6⟩
        ·exact pk6.elim
  ·exact pk2.elim
 ·have hi':i = t.items.length:=by omega
  rw [hi',List.drop_length] at pk2
  unfold accL at pk2
  split at pk2
  ·rename_i ok
   obtain ⟨E,r',q'⟩:=Dl.adopt hD e2 r2 d2
   exact .inl ⟨(q1 i ι2 H2 S2 e2.w r2 ok).2 (by omega),pk2 _ _ _ E r' q'⟩
  ·exact pk2.elim
theorem re_lc2 {elt tg1 iter1:Expr} {ifs ifs1:List Expr} {scope:Scope} {own:List (Str × Nat)} {vs1:List Nat} {m m1:EM Wk} {g g1:GM} {sl sl1:List Nat} {tt tt1:EM Bool} {el:EM PV} (hc:X.calm = true) (hN:X.N.Nodup) (hi:RI X W tg iter m) (ok:BlkOk X.N X.env.scope scope own) (hv:∀ i ∈ vs1,i ∈ own.map (·.2))
  (hg:∀ (s:Shared) (H:Hp) (C:Addr) (cl:List (Str × Addr)) (fp:List Addr),RG (X.blk s H scope (compEnvC scope cl C X.env) fp) tg g sl) (ht:∀ (s:Shared) (H:Hp) (C:Addr) (cl:List (Str × Addr)) (fp:List Addr),RTs (X.blk s H scope (compEnvC scope cl C X.env) fp) W0 ifs tt)
  (hi1:∀ (s:Shared) (H:Hp) (C:Addr) (cl:List (Str × Addr)) (fp:List Addr),RI (X.blk s H scope (compEnvC scope cl C X.env) fp) W0 tg1 iter1 m1)
  (hg1:∀ (s:Shared) (H:Hp) (C:Addr) (cl:List (Str × Addr)) (fp:List Addr),RG (X.blk s H scope (compEnvC scope cl C X.env) fp) tg1 g1 sl1) (ht1:∀ (s:Shared) (H:Hp) (C:Addr) (cl:List (Str × Addr)) (fp:List Addr),RTs (X.blk s H scope (compEnvC scope cl C X.env) fp) W0 ifs1 tt1)
  (he:∀ (s:Shared) (H:Hp) (C:Addr) (cl:List (Str × Addr)) (fp:List Addr),RE (X.blk s H scope (compEnvC scope cl C X.env) fp) W0 elt el) (hsl:∀ i ∈ sl,i ∈ own.map (·.2)) (hsl1:∀ i ∈ sl1,i ∈ vs1) (hs:∀ x,foldedSetIterable iter X.env x = pure x:=by intro _; rfl) (hs1:∀ env x,foldedSetIterable iter1 env x = pure x:=by intro _ _; rfl) :
  RE X W (.ListComp elt [⟨tg,iter,ifs,0⟩,⟨tg1,iter1,ifs1,0⟩] scope pos) (comp2M m g tt m1 g1 tt1 el (own.map (·.2)) vs1) :=
 ⟨pe_weak (pe_lc2 hc hN hi.pi ok hv (fun s H C cl fp => (hg s H C cl fp).pg) (fun s H C cl fp => (ht s H C cl fp).pts) (fun s H C cl fp => (hi1 s H C cl fp).pi) (fun s H C cl fp => (hg1 s H C cl fp).pg) (fun s H C cl fp => (ht1 s H C cl fp).pts) (fun s H C cl fp => (he s H C cl fp).pe) hs hs1)
  fun σ H Q h => lc2_read hsl hsl1 σ H Q h⟩
end
end PL
namespace PL
open PySem PySem.Spec PyProof.Rows L2
section
variable {X:Cx} {W:WX} {a b c e o f tg iter:Expr} {es rest:List Expr} {ma mb mc mo mf:EM PV} {tA tB':EM Bool} {mas:EM (List PV)} {pos apos cpos p2:Pos}
def dictM:EM PV:=fun _ S => .ok (.loc S.length) (S ++ [.dct []])
theorem RSt.new_dct {K:PySem.W.Frag} {mg:Str→Option Value} {ι : List Addr} {H:Hp} {S:Sto} (r:RSt ΩP Ωw K mg ι H S) {p:Addr} (hp:H p = none) {xs:List (Key × PV)} {vs:List (Key × V)} (h:RpF K ι H xs vs):Ext ι H (ι ++ [p]) (upd H p (.dK vs))∧RSt ΩP Ωw K mg (ι ++ [p]) (upd H p (.dK vs)) (S ++ [.dct xs])∧Rp K (ι ++ [p]) (upd H p (.dK vs)) (.loc S.length) (.ref p):=by
 have E:Ext ι H (ι ++ [p]) (upd H p (.dK vs)):=.alloc hp
 exact ⟨E,r.alloc hp (fun _ _ _ _ => trivial) E ⟨vs,upd_same,h.up E⟩,p,rfl,by rw [← r.len]; simp⟩
theorem re_dict0:RE X W (.Dict [] [] pos) dictM:=⟨pe_weak pe_dnewK fun σ H Q ⟨ι,τ,S,r,ρ,pk⟩ p hp => by
 obtain ⟨E,r2,q2⟩:=r.new_dct hp (xs:=[]) (vs:=[]) rfl
 exact pk _ _ _ E r2 q2⟩
def isDct (p:PV) (S:Sto):Bool:=match p with
 | .loc l => (match S[l]? with | some (.dct _) => true | _ => false)
 | _ => false
theorem isDct_rp {ι : List Addr} {H:Hp} {S:Sto} {p:PV} {x:V} (rs:RSt X.prog X.w X.K X.mg ι H S) (rp:Rp X.K ι H p x) (h:isDct p S = true):∃ a,x = .ref a∧IsD H a:=by
 unfold isDct at h
 split at h
 ·split at h
  ·rename_i eS
   obtain ⟨a,rfl,h1⟩:=rp
   obtain ⟨vs,h2,h3⟩:=rs.obj _ a _ h1 eS
   exact ⟨a,rfl,.inl ⟨vs,.inl h2⟩⟩
  ·cases h
 ·cases h
def setdefP (d k x:PV) (S:Sto):Option (PV × Sto):=match d with
 | .loc l => match S[l]?,keyP k with
  | some (.dct kvs),some kk => if kvs.length < 16777216 then (match valP kvs kk with | some v => some (v,S) | none => some (x,S.set l (.dct (putP kvs kk x)))) else none
  | _,_ => none
 | _ => none
def m2M (f:PV→PV→PV→Sto→Option (PV × Sto)) (mo ma mb:EM PV):EM PV:=fun τ S => bnd (mo τ S) fun d S1 => if isDct d S1 = true then bnd (ma τ S1) fun k S2 => bnd (mb τ S2) fun x S3 => lift (f d k x S3) else .bad
theorem re_setdef (ho:RE X W o mo) (he:RE X W e ma) (hf:RE X W f mf) (m:M2 X o "setdefault" apos e f cpos):RE X W (.Call (.Attribute o "setdefault" apos) [e,f] [] cpos) (m2M setdefP mo ma mf):=by
 refine ⟨pe_weak (pe_dsetd ho.pe he.pe hf.pe m) fun σ H Q ⟨ι,τ,S,r,ρ,pk⟩ => ⟨ι,τ,S,r,ρ,pk.next.mono fun x H1 ⟨p,ι1,S1,e1,r1,q1,pk1⟩ => ?_⟩⟩
 split at pk1
 ·rename_i hd
  obtain ⟨aD,rfl,hD⟩:=isDct_rp r1 q1 hd
  refine ⟨aD,rfl,hD,ι1,τ,S1,r1,ρ.up e1,pk1.next.mono fun y H2 ⟨k,ι2,S2,e2,r2,q2,pk2⟩ => ⟨ι2,τ,S2,r2,(ρ.up e1).up e2,pk2.next.mono fun z H3 ⟨w,ι3,S3,e3,r3,q3,pk3⟩ => ?_⟩⟩
  obtain ⟨v,S',hf,kk⟩:=pk_lift pk3
  unfold setdefP at hf
  split at hf
  ·split at hf
   ·rename_i l _ _ kvs kx eS ek
    split at hf
    ·rename_i hl
     obtain ⟨a,ea,h1⟩:=(q1.up e2).up e3
     cases ea
     obtain ⟨ws,h2,h3⟩:=r3.obj _ aD _ h1 eS
     cases key_rp (q2.up e3) ek
     obtain ⟨i1,i2⟩:=RpF.val (k:=kx) h3
     refine ⟨ws,kx,h2,rfl,by rw [← h3.length,sizeLine_eq]; exact hl,fun v' hv => ?_,fun hv => ?_⟩
     ·split at hf
      ·rename_i v0 e0
       cases hf
       obtain ⟨v1,e1',e2'⟩:=i1 _ e0
       rw [hv] at e1'; cases e1'
       exact kk _ _ _ .refl r3 e2'
      ·rename_i e0
       rw [i2 e0] at hv; cases hv
     ·split at hf
      ·rename_i v0 e0
       obtain ⟨v1,e1',_⟩:=i1 _ e0
       rw [hv] at e1'; cases e1'
      ·cases hf
       obtain ⟨E,r4⟩:=r3.wdct h1 (h3.put q3)
       exact kk _ _ _ E r4 (q3.up E)
    ·cases hf
   ·cases hf
  ·cases hf
 ·exact pk1.elim
def get2P (d k x:PV) (S:Sto):Option (PV × Sto):=match d with
 | .loc l => match S[l]?,keyP k with | some (.dct kvs),some kk => some ((valP kvs kk).getD x,S) | _,_ => none
 | _ => none
theorem re_get2 (hu:X.A.units + 1 < cLine) (ho:RE X W o mo) (he:RE X W e ma) (hf:RE X W f mf) (m:M2 X o "get" apos e f cpos):RE X W (.Call (.Attribute o "get" apos) [e,f] [] cpos) (m2M get2P mo ma mf):=by
 refine ⟨pe_weak (pe_dget2 hu ho.pe he.pe hf.pe m) fun σ H Q ⟨ι,τ,S,r,ρ,pk⟩ => ⟨ι,τ,S,r,ρ,pk.next.mono fun x H1 ⟨p,ι1,S1,e1,r1,q1,pk1⟩ => ?_⟩⟩
 split at pk1
 ·rename_i hd
  obtain ⟨aD,rfl,hD⟩:=isDct_rp r1 q1 hd
  refine ⟨aD,rfl,hD,ι1,τ,S1,r1,ρ.up e1,pk1.next.mono fun y H2 ⟨k,ι2,S2,e2,r2,q2,pk2⟩ => ⟨ι2,τ,S2,r2,(ρ.up e1).up e2,pk2.next.mono fun z H3 ⟨w,ι3,S3,e3,r3,q3,pk3⟩ => ?_⟩⟩
  obtain ⟨v,S',hf,kk⟩:=pk_lift pk3
  unfold get2P at hf
  split at hf
  ·split at hf
   ·rename_i kvs kx eS ek
    cases hf
    obtain ⟨a,ea,h1⟩:=(q1.up e2).up e3
    cases ea
    obtain ⟨ws,h2,h3⟩:=r3.obj _ aD _ h1 eS
    cases key_rp (q2.up e3) ek
    obtain ⟨i1,i2⟩:=RpF.val (k:=kx) h3
    refine ⟨valV ws kx,DGet.k h2,?_⟩
    cases hv:valP kvs kx with
    | none => rw [i2 hv]; exact kk _ _ _ .refl r3 (by rw [hv]; exact q3)
    | some v0 =>
     obtain ⟨v1,e1',e2'⟩:=i1 _ hv
     rw [e1']
     exact kk _ _ _ .refl r3 (by rw [hv]; exact e2')
   ·cases hf
  ·cases hf
 ·exact pk1.elim
def fldM (C f:Str) (m:EM PV):EM PV:=fun τ S => bnd (m τ S) fun p S1 => match p with
 | .loc l => match S1[l]? with
  | some (.ins C' fs) => if C' = C then (match fs.lookup f with | some v => .ok v S1 | none => .bad) else .bad
  | _ => .bad
 | _ => .bad
theorem re_fld {C f:Str} {Ca:Addr} (hm:X.mg C = some (.ref Ca)) (cl:Cls X.K Ca) (na:NoAttr X.K Ca f) (he:RE X W e ma) (hb:attributeBase e f X.env (eval e X.env) = eval e X.env:=by rfl):RE X W (.Attribute e f pos) (fldM C f ma):=by
 refine ⟨pe_weak (pe_fld he.pe hb) fun σ H Q ⟨ι,τ,S,r,ρ,pk⟩ => ⟨ι,τ,S,r,ρ,pk.next.mono fun x H1 ⟨p,ι1,S1,e1,r1,q1,pk1⟩ => ?_⟩⟩
 split at pk1
 ·split at pk1
  ·rename_i l _ C' fs eS
   split at pk1
   ·rename_i hC
    subst hC
    split at pk1
    ·rename_i v hv
     obtain ⟨a,rfl,h1⟩:=q1
     obtain ⟨Cb,dx,ws,h2,h3,h4⟩:=r1.obj _ a _ h1 eS
     rw [hm] at h2; cases h2
     obtain ⟨w,h5,h6⟩:=RpF.lookup h4 hv
     exact ⟨a,Ca,dx,ws,w,rfl,h3,cl,na,h5,pk1 _ _ _ .refl r1 h6⟩
    ·exact pk1.elim
   ·exact pk1.elim
  ·exact pk1.elim
 ·exact pk1.elim
def putG (f:Str) (v:PV):List (Str × PV)→List (Str × PV)
 | [] => [(f,v)]
 | (g,x) :: r => if g = f then (g,v) :: r else (g,x) :: putG f v r
theorem RpF.putG {K:PySem.W.Frag} {ι : List Addr} {H:Hp} {f:Str} {y:PV} {z:V} (hy:Rp K ι H y z):∀ {fs:List (Str × PV)} {ws:List (Str × V)},RpF K ι H fs ws→RpF K ι H (PL.putG f y fs) (L2.putF f z ws)
 | [],_,h => by cases (show _ = _ from h); exact ⟨z,[],rfl,hy,rfl⟩
 | (k,x) :: r,_,h => by
  obtain ⟨v,w,rfl,h1,h2⟩:=h
  unfold PL.putG L2.putF
  by_cases e:k = f
  ·rw [if_pos e,if_pos e]; exact ⟨z,w,rfl,hy,h2⟩
  ·rw [if_neg e,if_neg e]; exact ⟨v,_,rfl,h1,RpF.putG hy h2⟩
def setfS (C f:Str) (m mo:EM PV):SM:=fun τ S => bndS (m τ S) τ fun v S1 => bndS (mo τ S1) τ fun p S2 => match p with
 | .loc l => match S2[l]? with
  | some (.ins C' fs) => if C' = C∧fs.length < 1000 then .nx τ (S2.set l (.ins C (putG f v fs))) else .bad
  | _ => .bad
 | _ => .bad
theorem rs_fld {C f:Str} {Ca:Addr} {p':Pos} (hm:X.mg C = some (.ref Ca)) (cl:Cls X.K Ca) (na:NoAttr X.K Ca f) (ho:RE X W o mo) (he:RE X W e ma) (hs:swapsWith e (some (.Attribute o f p')) pos.line X.env = pure false:=by rfl):RS X W (.Assign [.Attribute o f p'] e pos) (setfS C f ma mo):=by
 refine ⟨ps_weak (ps_fld ho.pe he.pe hs) fun D σ H ⟨ι,τ,S,r,ρ,pk⟩ => ⟨ι,τ,S,r,ρ,(PkS.next (R:=rV X) ρ pk).mono fun y H1 ⟨v,ι1,S1,e1,r1,q1,pk1⟩ => ⟨ι1,τ,S1,r1,ρ.up e1,(PkS.next (R:=rV X) (ρ.up e1) pk1).mono fun x H2 ⟨p,ι2,S2,e2,r2,q2,pk2⟩ => ?_⟩⟩⟩
 split at pk2
 ·split at pk2
  ·rename_i l _ C' fs eS
   split at pk2
   ·rename_i hC
    obtain ⟨hC,hl⟩:=hC
    subst hC
    obtain ⟨a,rfl,h1⟩:=q2
    obtain ⟨Cb,dx,ws,h2,h3,h4⟩:=r2.obj _ a _ h1 eS
    have hcb:=h2
    rw [hm] at h2; cases h2
    obtain ⟨E,r3⟩:=r2.wins h1 hcb (h4.putG (f:=f) (q1.up e2))
    exact ⟨a,Ca,dx,ws,rfl,h3,cl,na,by rw [← h4.length]; exact hl,pk2 _ _ _ E r3 (((ρ.up e1).up e2).up E)⟩
   ·exact pk2.elim
  ·exact pk2.elim
 ·exact pk2.elim
def tMethW (C:Addr) (m:Str) (sp:Sp) (E:L2.St→XK) (ta:TE) (t:TA):TE:=fun σ H Q => ta σ H fun x H1 => ∃ a dx fs,x = .ref a∧H1 a = some (.ins C dx fs)∧fs.lookup m = none ∧
 t σ H1 fun vs H2 => sp (x :: vs) H2 Q (E σ)
theorem pe_methW0 {CX:CXT} {k:Nat} {C f:Addr} {fd:FuncData} {ps:List Str} {sp:Sp} {E:L2.St→XK} {m:Str} {ta:TE} {pl:Sem Bool} (he:PE X o ta) (c:Cls X.K C) (hm:Meth X.K C m f) (F:FnOk X.prog X.w X.K X.mg X.base CX k f fd ps sp) (hr:Room k X.A) (hb:Binds X.K fd ps []) (hx:∀ σ,PassesAt CX X σ (E σ))
  (ht:eval (.Call (.Attribute o m apos) [] [] pos) X.env = (do
   let ov ← eval o X.env
   standAt apos.atName
   let (f,first) ← holding [ov] (getMethod ov m pl)
   callWith pos f first (backTo pos (starEach [] X.env)) (backToKw pos (keywordEach [] X.env))):=by rfl) :
  PE X (.Call (.Attribute o m apos) [] [] pos) (tMethW C m sp E ta tNil):=by
 refine ⟨fun pins s σ H Q I h => ?_⟩
 refine PySem.W.methodCall_KW (pl:=pl) (thn (he.run pins s σ H _ I h) fun u s1 ⟨x,H1,I1,rx,a,dx,fs,ex,ea,l,q⟩ => ?_) ht
 subst ex
 obtain rfl:u = Value.ref a:=rx
 refine getmeth_ok I1 ea c hm l ?_
 exact PySem.W.callWith_K0 (first:=[.ref a]) I1.kIn hm.kp (run_fnS (us:=[.ref a]) (vs:=[.ref a]) F hr hb (hx σ) I1 (.cons rfl .nil) q)
def isIns (C m:Str) (p:PV) (S:Sto):Bool:=match p with
 | .loc l => match S[l]? with | some (.ins C' fs) => decide (C' = C) && (fs.lookup m).isNone | _ => false
 | _ => false
def methM (C m:Str) (F:FM) (mo:EM PV) (ms:EM (List PV)):EM PV:=fun τ S => bnd (mo τ S) fun p S1 => if isIns C m p S1 = true then bnd (ms τ S1) fun ps S2 => F (p :: ps) S2 else .bad
theorem isIns_rp {C m:Str} {Ca:Addr} {ι : List Addr} {H:Hp} {S:Sto} {p:PV} {x:V} (hm:X.mg C = some (.ref Ca)) (rs:RSt X.prog X.w X.K X.mg ι H S) (rp:Rp X.K ι H p x) (h:isIns C m p S = true):∃ a dx fs,x = .ref a∧H a = some (.ins Ca dx fs)∧fs.lookup m = none:=by
 unfold isIns at h
 split at h
 ·split at h
  ·rename_i eS
   rw [Bool.and_eq_true] at h
   obtain ⟨a,rfl,h1⟩:=rp
   obtain ⟨Cb,dx,ws,h2,h3,h4⟩:=rs.obj _ a _ h1 eS
   have e:=of_decide_eq_true h.1
   subst e
   rw [hm] at h2; cases h2
   exact ⟨a,dx,ws,rfl,h3,RpF.lookup_none h4 (Option.isNone_iff_eq_none.mp h.2)⟩
  ·cases h
 ·cases h
theorem re_meth0 {C m:Str} {Ca fa:Addr} {k:Nat} {F:FM} {fd:FuncData} {ps:List Str} {pl:Sem Bool} (hm:X.mg C = some (.ref Ca)) (cl:Cls X.K Ca) (me:Meth X.K Ca m fa) (G:FnOk X.prog X.w X.K X.mg X.base (L2.CX X.prog X.w) k fa fd ps (spD X.prog X.w X.K X.mg 1 F)) (hr:Room k X.A) (hb:Binds X.K fd ps []) (tk:Takes X W) (ho:RE X W o mo)
  (ht:eval (.Call (.Attribute o m apos) [] [] pos) X.env = (do
   let ov ← eval o X.env
   standAt apos.atName
   let (f,first) ← holding [ov] (getMethod ov m pl)
   callWith pos f first (backTo pos (starEach [] X.env)) (backToKw pos (keywordEach [] X.env))):=by rfl) :
  RE X W (.Call (.Attribute o m apos) [] [] pos) (methM C m F mo aN):=by
 refine ⟨pe_weak (pe_methW0 (pl:=pl) (E:=WE W) ho.pe cl me G hr hb (fun σ => passAt tk σ) ht) fun σ H Q ⟨ι,τ,S,r,ρ,pk⟩ => ⟨ι,τ,S,r,ρ,pk.next.mono fun x H1 ⟨p,ι1,S1,e1,r1,q1,pk1⟩ => ?_⟩⟩
 split at pk1
 ·rename_i hi
  obtain ⟨aI,dx,fs,rfl,h1,h2⟩:=isIns_rp hm r1 q1 hi
  exact ⟨aI,dx,fs,rfl,h1,h2,call_wish (ps:=[p]) r1 ⟨_,_,rfl,q1,rfl⟩ rfl (show Pk X W (rV X) σ Q ι1 H1 (F [p] S1) from pk1)⟩
 ·exact pk1.elim
end
end PL
namespace PL
open PySem PySem.Spec PyProof.Rows L2
section
variable {X:Cx} {W:WX} {a b c e o f tg iter:Expr} {es rest:List Expr} {ma mb mc mo mf:EM PV} {tA tB':EM Bool} {mas mks:EM (List PV)} {pos apos cpos p2:Pos} {kws:List Keyword}
theorem run_makeW {CX:CXT} {k:Nat} {C f:Addr} {fd:FuncData} {ps ks:List Str} {sp:Sp} {E:XK} {g:List Value→List Value→List Value} {gV:List V→List V→List V} {pins:List (Addr × Obj)} {σ : L2.St} {H:Hp} {s:Shared} {Q:VK} {us ws:List Value} {vs zs:List V} (M:Mk X.K C f) (F:FnOk X.prog X.w X.K X.mg X.base CX k f fd ps sp) (hr:Room (k + 1) X.A) (hb:KBinds X.K fd ps ks g gV)
  (hx:PassesAt CX X σ E) (I:Inv X pins σ H s) (r:Vals vs us) (rz:Vals zs ws)
  (h:∀ x dx,H x = none→H dx = none→dx ≠ x→sp (gV (.ref x :: vs) zs) (upd (upd H dx (.own x)) x (.ins C dx [])) (fun v H2 => v = .non∧Q (.ref x) H2) E) :
  wpAny (model X.prog X.w) X.A (call (.ref C) us (ks.zip ws)) (EP X pins σ Q) X.xe s:=by
 have hq:=h (s.heap.objs.size + 1) s.heap.objs.size (I.hok.fresh (Nat.le_succ _)) (I.hok.fresh (Nat.le_refl _)) (Nat.ne_of_lt (Nat.lt_succ_self _))
 have I2:=Inv.made (C:=C) I
 have r1:Vals (V.ref (s.heap.objs.size + 1) :: vs) (Value.ref (s.heap.objs.size + 1) :: us):=.cons rfl r
 have r2:=hb.rel r1 rz
 have hl:(g (Value.ref (s.heap.objs.size + 1) :: us) ws).length = ps.length:=by
  rw [← r2.length]; exact F.len _ _ _ _ hq
 refine wpAny_call (make_map (f:=f) I.kIn M.makes M.init (beq_iff_eq.mp M.fn) (codeAny_mono (F.run _ X.stack _ _ ⟨Value.ref (s.heap.objs.size + 1) :: us,ks.zip ws⟩ (g (Value.ref (s.heap.objs.size + 1) :: us) ws) _ _ E (hr.make C us (ks.zip ws))
  (I2.env0.make C us (ks.zip ws)) (hb.to _ (Value.ref (s.heap.objs.size + 1) :: us) ws I2.kIn hl) r2 hq) fun r s' hq' => ?_))
 cases r with
 | error e => exact hx pins _ _ e s' I2 hq'
 | ok fl =>
  cases fl with
  | ret u =>
   obtain ⟨v,H',I3,rv,ev,q3⟩:=I2.after hq'
   subst ev
   exact ⟨rv,⟨V.ref (s.heap.objs.size + 1),H',I3,rfl,q3⟩⟩
  | next => exact False.elim hq'
  | brk => exact False.elim hq'
  | cont => exact False.elim hq'
theorem KBinds.of0 {K:PySem.W.Frag} {fd:FuncData} {ps:List Str} (hb:Binds K fd ps []):KBinds K fd ps [] (fun us _ => us) (fun vs _ => vs) :=
 ⟨fun s us ws h hl => by
  have:=hb s us h (by rw [List.append_nil]; exact hl)
  rw [List.append_nil] at this
  exact this,fun r _ => r⟩
def tMakeW (C:Addr) (sp:Sp) (E:L2.St→XK) (t:TA):TE:=fun σ H Q => t σ H fun vs H1 => ∀ x dx,H1 x = none→H1 dx = none→dx ≠ x →
 sp (.ref x :: vs) (upd (upd H1 dx (.own x)) x (.ins C dx [])) (fun v H2 => v = .non∧Q (.ref x) H2) (E σ)
theorem pe_makeW {CX:CXT} {x:Str} {p:Pos} {k:Nat} {C f:Addr} {fd:FuncData} {ps:List Str} {sp:Sp} {E:L2.St→XK} {t:TA} (M:Mk X.K C f) (F:FnOk X.prog X.w X.K X.mg X.base CX k f fd ps sp) (hr:Room (k + 1) X.A) (hg:Gl X x) (hm:X.mg x = some (.ref C)) (hb:Binds X.K fd ps []) (hx:∀ σ,PassesAt CX X σ (E σ))
  (ha:PA X (e :: es) t) (hdb:(x == ("__debug__" : Str)) = false:=by decide) (he:starEach (e :: es) X.env = (false,eval e X.env) :: starEach es X.env:=by rfl) (hpl:(backTo pos (starEach es X.env)).any (·.1) = false:=by rfl) :
  PE X (.Call (.Name x p) (e :: es) [] pos) (tMakeW C sp E t):=by
 refine ⟨fun pins s σ H Q I h => ?_⟩
 refine wpAny_Call_Name_kw (ld_glob I hg hm ?_ hdb)
 refine PySem.W.callWith_K (h₀:=X.base) I.ok.mod.kin M.kp (thn (ha.run pos pins s σ H _ I h) fun us s1 ⟨vs,H1,I1,r,q⟩ => ⟨I1.kIn,?_⟩) he hpl
 have:=run_makeW (us:=us) (ws:=[]) (zs:=[]) M F hr (KBinds.of0 hb) (hx σ) I1 r .nil q
 exact this
structure RK (X:Cx) (W:WX) (kws:List Keyword) (m:EM (List PV)):Prop where
 pk:PK X kws (gE X W (rL X) m)
theorem pk_weak {kws:List Keyword} {t t':TA} (h:PK X kws t) (w:∀ σ H Q,t' σ H Q→t σ H Q):PK X kws t':=⟨fun pos pins s σ H Q I hh => h.run pos pins s σ H Q I (w σ H Q hh)⟩
theorem rk_nil:RK X W [] aN:=⟨pk_weak pk_nil fun σ H Q ⟨ι,τ,S,r,ρ,pk⟩ => pk _ _ _ .refl r rfl⟩
theorem rk_cons {nm:Option Str} {kpos:Pos} (ha:RE X W e ma) (hr:RK X W kws mas):RK X W (⟨nm,e,kpos⟩ :: kws) (aC ma mas):=by
 refine ⟨pk_weak (pk_cons ha.pe hr.pk) fun σ H Q ⟨ι,τ,S,r,ρ,pk⟩ => ⟨ι,τ,S,r,ρ,pk.next.mono fun x H1 ⟨p,ι1,S1,e1,r1,q1,pk1⟩ => ⟨ι1,τ,S1,r1,ρ.up e1,pk1.next.mono fun xs H2 ⟨ps,ι2,S2,e2,r2,q2,pk2⟩ => ?_⟩⟩⟩
 exact pk2 _ _ _ .refl r2 ⟨x,xs,rfl,q1.up e2,q2⟩
def makeM (C:Str) (F:FM) (g:List PV→List PV) (ms:EM (List PV)):EM PV:=fun τ S => bnd (ms τ S) fun ps S1 => bnd (F (.loc S1.length :: g ps) (S1 ++ [.ins C []])) fun v S2 => match v with | .non => .ok (.loc S1.length) S2 | _ => .bad
theorem make_wish {C:Str} {Ca:Addr} {n:Nat} {F:FM} {σ : L2.St} {Q:VK} {ι : List Addr} {H:Hp} {S:Sto} {ps:List PV} {vs:List V} (hm:X.mg C = some (.ref Ca)) (r:RSt X.prog X.w X.K X.mg ι H S) (q:RpL X.K ι H ps vs) (hn:ps.length = n)
  (pk:Pk X W (rV X) σ Q ι H (bnd (F (.loc S.length :: ps) (S ++ [.ins C []])) fun v S2 => match v with | .non => .ok (.loc S.length) S2 | _ => .bad)) (x dx:Addr) (hx:H x = none) (hdx:H dx = none) (hne:dx ≠ x) :
  spD X.prog X.w X.K X.mg (n + 1) F (.ref x :: vs) (upd (upd H dx (.own x)) x (.ins Ca dx [])) (fun v H2 => v = .non∧Q (.ref x) H2) (WE W σ):=by
 obtain ⟨E1,r1⟩:=r.tup (ho:=.own x) hdx
 have hx1:upd H dx (.own x) x = none:=by rw [upd_ne (Ne.symm hne)]; exact hx
 have E2:Ext ι (upd H dx (.own x)) (ι ++ [x]) (upd (upd H dx (.own x)) x (.ins Ca dx [])):=.alloc hx1
 have r2:=r1.alloc (o:=.ins C []) hx1 (fun _ _ _ _ => trivial) E2 ⟨Ca,dx,[],hm,upd_same,rfl⟩
 refine ⟨ι ++ [x],S ++ [.ins C []],.loc S.length :: ps,r2,⟨.ref x,vs,rfl,⟨x,rfl,by rw [← r.len]; simp⟩,(q.up E1).up E2⟩,by simp [hn],?_⟩
 unfold Pk at pk
 rw [wp_bnd] at pk
 refine wp_mono pk (fun v S' k ι' H' y e' r' q' => ?_) fun c p S' k ι' H' Ca d y e' r' m hd hp => k ι' H' Ca d y ((E1.trans E2).trans e') r' m hd hp
 cases v with
 | non => exact ⟨q',k ι' H' (.ref x) ((E1.trans E2).trans e') r' ⟨x,rfl,e'.pre _ _ (by rw [← r.len]; simp)⟩⟩
 | _ => exact k.elim
theorem re_make {C:Str} {p:Pos} {n k:Nat} {F:FM} {Ca fa:Addr} {fd:FuncData} {ps:List Str} (M:Mk X.K Ca fa) (G:FnOk X.prog X.w X.K X.mg X.base (L2.CX X.prog X.w) k fa fd ps (spD X.prog X.w X.K X.mg (n + 1) F)) (hr:Room (k + 1) X.A) (hg:Gl X C) (hm:X.mg C = some (.ref Ca)) (hb:Binds X.K fd ps []) (tk:Takes X W)
  (ha:RA X W (e :: es) mas) (hn:∀ τ S qs S',mas τ S = .ok qs S'→qs.length = n) (hdb:(C == ("__debug__" : Str)) = false:=by decide) (he:starEach (e :: es) X.env = (false,eval e X.env) :: starEach es X.env:=by rfl) (hpl:(backTo pos (starEach es X.env)).any (·.1) = false:=by rfl) :
  RE X W (.Call (.Name C p) (e :: es) [] pos) (makeM C F id mas):=by
 refine ⟨pe_weak (pe_makeW (E:=WE W) M G hr hg hm hb (fun σ => passAt tk σ) ha.pa hdb he hpl) fun σ H Q ⟨ι,τ,S,r,ρ,pk⟩ => ⟨ι,τ,S,r,ρ,?_⟩⟩
 have hn':=hn τ S
 unfold makeM at pk
 cases hm':mas τ S with
 | bad => rw [hm'] at pk; exact pk.elim
 | er c p S' => rw [hm'] at pk; exact pk
 | ok qs S1 =>
  have hl:=hn' qs S1 hm'
  rw [hm'] at pk
  show ∀ ι' H' x,Ext ι H ι' H'→RSt X.prog X.w X.K X.mg ι' H' S1→RpL X.K ι' H' qs x→_
  intro ι' H' vs e' r' q' x dx hx hdx hne
  exact make_wish hm r' q' hl (Pk.up (o:=bnd (F (.loc S1.length :: qs) (S1 ++ [.ins C []])) _) pk e') x dx hx hdx hne
end
end PL
namespace PL
open PySem PySem.Spec PyProof.Rows L2
def onceK (acc:List Key):List Key→List Key
 | [] => acc
 | k :: r => onceK (if acc.any (fun j => decide (j = k)) then acc else acc ++ [k]) r
theorem setOf_same {prog:Program} {w:World} {h:Heap} {a:Addr} {S S':Key→Bool} {n n':Nat} (hS:h.SetOf (mixKind prog w) a S n) (e:∀ k,S k = S' k) (en:n = n'):h.SetOf (mixKind prog w) a S' n':=by
 obtain rfl:S = S':=funext e
 subst en
 exact hS
theorem onceK_app (k:Key):∀ (ks acc:List Key),onceK acc (ks ++ [k]) = (if (onceK acc ks).any (fun j => decide (j = k)) then onceK acc ks else onceK acc ks ++ [k])
 | [],acc => rfl
 | j :: ks,acc => by
  show onceK _ (ks ++ [k]) = _
  rw [onceK_app k ks]
  rfl
theorem onceK_len:∀ (ks acc:List Key),(onceK acc ks).length ≤ acc.length + ks.length
 | [],acc => Nat.le_refl _
 | k :: ks,acc => by
  have:=onceK_len ks (if acc.any (fun j => decide (j = k)) then acc else acc ++ [k])
  unfold onceK
  rw [List.length_cons]
  split at this <;> simp_all <;> omega
section
variable {prog:Program} {w:World} {A:Around} {R:Result→Shared→Prop} {I:Addr} {fp wr:List Addr} {G:Array GenState→Array GenState→Prop} {n:Nat} {P:Nat→Value→Prop} {St:Nat→Shared→Prop}
theorem setLoopK (W:WalksS prog w A.in1 I fp wr G n P St) (S:Addr) (hSf:S ∉ fp) (ks:List Key) (hsz:ks.length = n) (hb:n + 1 < scanBound)
  (hval:∀ i v,P i v→∃ k,ks[i]? = some k∧keyIs k v = true) :
  ∀ (m i:Nat) (s:Shared),n - i = m→i ≤ n→St i s→s.heap.SetOf (mixKind prog w) S (fun j => (onceK [] (ks.take i)).any (fun x => decide (x = j))) (onceK [] (ks.take i)).length →
   (∀ s',Moved (S :: wr) G s s'→s'.heap.SetOf (mixKind prog w) S (fun j => (onceK [] ks).any (fun x => decide (x = j))) (onceK [] ks).length→R (.ok (.ret .none)) s') →
   codeAny (model prog w) A (.builtin "set.update.loop" ⟨[.ref S,.ref I],[]⟩) R s:=by
 have nw:S ∉ wr:=fun h => hSf (W.sub _ h)
 have up:∀ b ∈ wr,b ∈ S :: wr:=fun b hb => List.mem_cons_of_mem _ hb
 intro m
 induction m with
 | zero =>
  intro i s hm hi st hS hR
  obtain rfl:i = n:=by omega
  rw [List.take_of_length_le (Nat.le_of_eq hsz)] at hS
  refine codeAny_builtin PyProof.Rows.F.entry_set_update_loop ?_
  rw [Around.under_plainId PyProof.Rows.F.plain_set_update_loop _]
  refine (wpAny_bind (W.done s _ _ st fun s' mv => ?_):wpAny _ A.in1 (pyNext (.ref I) >>= _) _ _ s)
  have fin:s'.heap.SetOf (mixKind prog w) S (fun j => (onceK [] ks).any (fun x => decide (x = j))) (onceK [] ks).length:=by
   obtain ⟨o,es,ep,t,ho,more⟩:=hS
   exact ⟨o,es,ep,t,mv.heap S _ nw ho,more⟩
  show wpAny _ A.in1 (ret Value.none) _ _ s'
  exact wpAny_pure (hR s' (mv.mono up) fin)
 | succ m ih =>
  intro i s hm hi st hS hR
  have lt:i < n:=by omega
  refine codeAny_builtin PyProof.Rows.F.entry_set_update_loop ?_
  rw [Around.under_plainId PyProof.Rows.F.plain_set_update_loop _]
  refine (wpAny_bind (W.item i s _ _ lt st fun v s' hP st' mv => ?_):wpAny _ A.in1 (pyNext (.ref I) >>= _) _ _ s)
  obtain ⟨k,hk,kis⟩:=hval i v hP
  have hS1:s'.heap.SetOf (mixKind prog w) S (fun j => (onceK [] (ks.take i)).any (fun x => decide (x = j))) (onceK [] (ks.take i)).length:=by
   obtain ⟨o,es,ep,t,ho,more⟩:=hS
   exact ⟨o,es,ep,t,mv.heap S _ nw ho,more⟩
  have scan:v.scannable = true:=by
   rcases keyIs_shape kis with ⟨j,t,_,rfl⟩ | ⟨x,t,_,rfl⟩ <;> rfl
  have room:(onceK [] (ks.take i)).length + 1 < scanBound:=by
   have h1:=onceK_len (ks.take i) []
   have h2:(ks.take i).length ≤ i:=by rw [List.length_take]; omega
   simp at h1
   omega
  refine (wpAny_bind (wpAny_holding ?_):wpAny _ A.in1 (holding [v] (setAdd S v) >>= _) _ _ s')
  unfold setAdd
  refine wpAny_holding (wpAny_bind ((mixKind prog w).pyHash (k:=k) kis ?_))
  refine wpAny_setAddHashed_of (knd:=mixKind prog w) (s:={ s' with toks:=s'.toks + 1 }) kis scan hS1 room fun h' sb hS2 => ?_
  have tk:ks.take (i + 1) = ks.take i ++ [k]:=by rw [List.take_add_one,hk]; rfl
  have hS3:h'.SetOf (mixKind prog w) S (fun j => (onceK [] (ks.take (i + 1))).any (fun x => decide (x = j))) (onceK [] (ks.take (i + 1))).length:=by
   rw [tk,onceK_app]
   refine setOf_same hS2 (fun j => ?_) ?_
   ·by_cases c:(onceK [] (ks.take i)).any (fun x => decide (x = k)) = true
    ·rw [if_pos c]
     by_cases e:j = k
     ·subst e; rw [c]; rfl
     ·simp [e]
    ·rw [if_neg c,List.any_append]
     by_cases e:j = k
     ·subst e; simp
     ·have e':¬ k = j:=fun z => e z.symm
      simp [e,e']
   ·by_cases c:(onceK [] (ks.take i)).any (fun x => decide (x = k)) = true
    ·rw [if_pos c,if_pos c]
    ·rw [if_neg c,if_neg c,List.length_append]; rfl
  refine wpAny_pure ⟨plainId_quiet PyProof.Rows.F.plain_set_update_loop _,ih (i + 1) _ (by omega) lt (W.frame _ s' _ _ st' (Nat.le_succ _) fun b hb o e => ?_) hS3 fun s2 mv2 hS4 => ?_⟩
  ·exact (sb.2 b fun z:b = S => hSf (z ▸ hb)).trans e
  ·exact hR s2 (Moved.trans W.gtrans ((mv.mono up).then_heap (Nat.le_succ _) fun b o hb e => (sb.2 b fun z:b = S => hb (by rw [z]; exact List.mem_cons_self)).trans e) mv2) hS4
end
section
variable {prog:Program} {w:World} {A:Around} {E:Value→Shared→Prop} {s:Shared}
set_option maxHeartbeats 3200000 in
theorem call_setK {l:Addr} {items:Array Value} {ks:List Key} {Q:Value→Shared→Prop} (hh:A.handled = none) (hl:s.heap.IsTuple l items) (hi:ks.length = items.size) (hk:∀ (i:Nat) v,items[i]? = some v→∃ k,ks[i]? = some k∧keyIs k v = true) (hn:items.size + 1 < scanBound)
  (h:∀ (h':Heap) (tk:Nat),h'.SetOf (mixKind prog w) s.heap.objs.size (fun j => (onceK [] ks).any (fun x => decide (x = j))) (onceK [] ks).length→(∀ b o,b < s.heap.objs.size→s.heap.get? b = some o→h'.get? b = some o)→Q (.ref s.heap.objs.size) { s with heap:=h',toks:=tk }) :
  wpAny (model prog w) A (call (.type "set") [.ref l]) Q E s:=by
 obtain ⟨c,tl,hmro⟩:=PySem.F.called_set.mro
 have x1:=PySem.F.called_set.made
 have x2:=PySem.F.called_set.sub
 have x3:=PySem.F.called_set.notType
 have x4:=PySem.F.called_set.canCreate
 have x5:=PySem.F.typeCall_set_1 (.ref l)
 refine wpAny_call (codeAny_of_tree ((wpAny_pure ⟨Code.quiet_builtin _ (by decide +kernel),codeAny_builtin PySem.F.entry_type_call ?_⟩:wpAny _ _ (callAny (.type "set") _) _ _ _)))
 rw [Around.under_plain (weight_type_call_type "set" [.ref l] []) rfl]
 repeat (any_goals (first | assumption | wp_step))
 refine codeAny_mono (code_set_new_1 (.ref l) (E:=E) (Q₁:=fun obj s₁ => ∃ led:Bool,obj = .ref s.heap.objs.size∧s₁ = { s with heap:=s.heap.push { cls:=.type "set",dict:=none,data:=.set #[] 0 (.fresh 0 0 led) } }) fun led => ⟨led,rfl,rfl⟩) fun r s₁ hr => ?_
 cases r with
 | error e => exact hr
 | ok fl =>
  cases fl with
  | ret obj =>
   obtain ⟨led,rfl,rfl⟩:=hr
   have hS:=Heap.get?_push_size (o:=({ cls:=.type "set",dict:=none,data:=.set #[] 0 (.fresh 0 0 led) }:Obj)) s.heap rfl
   have hT:Shared.TypeIs { s with heap:=s.heap.push { cls:=.type "set",dict:=none,data:=.set #[] 0 (.fresh 0 0 led) } } (.ref s.heap.objs.size) "set" := ⟨_,hS,rfl⟩
   have y1:=PySem.F.called_set.init.lookup
   have y2:=PySem.F.called_set.init.bind (.ref s.heap.objs.size)
   repeat (any_goals (first | assumption | wp_step))
   refine codeAny_mono (codeAny_call_builtin (R:=wants (fun r s₂ => r = .none∧∃ h' tk,s₂ = { s with heap:=h',toks:=tk }∧h'.SetOf (mixKind prog w) s.heap.objs.size (fun j => (onceK [] ks).any (fun x => decide (x = j))) (onceK [] ks).length ∧
     (∀ b o,b < s.heap.objs.size→s.heap.get? b = some o→h'.get? b = some o)) E) PySem.F.called_set.init.plain PySem.F.entry_set_init (check_set_init_1 hT ?_)) fun r₂ s₂ hr₂ => ?_
   ·obtain ⟨⟨oc,od,odt,osl⟩,hol,hcl,nl,hdl⟩:=hl
    simp only at hcl hdl
    subst hcl; subst hdl
    have hol':(s.heap.push { cls:=.type "set",dict:=none,data:=.set #[] 0 (.fresh 0 0 led) }).get? l = some { cls:=.type "tuple",dict:=od,data:=.seq items nl,slots:=osl }:=Heap.get?_push_of_some _ hol
    have z1:=PySem.F.sub_tuple_set
    have z2:=PySem.F.sub_tuple_frozenset
    have z3:(Value.type "tuple" == Value.type "dict") = false:=by decide
    have hl1:(s.heap.push { cls:=.type "set",dict:=none,data:=.set #[] 0 (.fresh 0 0 led) }).IsTuple l items:=⟨_,hol',rfl,nl,rfl⟩
    unfold Builtin.«set.__init__» noKeywords Builtin.Frozenset.updateFrom
    generalize hPI:pyIter = PI
    wp_walk
    subst hPI
    refine wpAny_pyIter_tuple hl1 (wpAny_bind (wpAny_runValue ?_))
    have lS:l < s.heap.objs.size:=Heap.lt_size hol
    have hd3:A.in1.in1.in1.handled = none:=by simp [hh]
    have neI:l ≠ (s.heap.push { cls:=.type "set",dict:=none,data:=.set #[] 0 (.fresh 0 0 led) }).objs.size:=by
     rw [Heap.size_push]; exact Nat.ne_of_lt (Nat.lt_succ_of_lt lS)
    have nf:s.heap.objs.size ∉ [(s.heap.push { cls:=.type "set",dict:=none,data:=.set #[] 0 (.fresh 0 0 led) }).objs.size,l]:=by
     rw [Heap.size_push]; simp only [List.mem_cons,List.mem_singleton,List.not_mem_nil,or_false,not_or]
     exact ⟨Nat.ne_of_lt (Nat.lt_succ_self _),Nat.ne_of_gt lS⟩
    refine setLoopK ((Walks.tuple hd3 _ l neI items).toS) s.heap.objs.size nf ks hi hn (fun i v hv => hk i v hv) (items.size - 0) 0 _ (by omega) (Nat.zero_le _) ⟨⟨_,Heap.get?_push_size _ rfl,rfl,rfl⟩,(hl1.push _)⟩ ?hS0 ?hR
    case hS0 =>
     have hg:((s.heap.push { cls:=.type "set",dict:=none,data:=.set #[] 0 (.fresh 0 0 led) }).push { cls:=.type "tuple_iterator",data:=.fields #[.ref l,.int 0 0] }).get? s.heap.objs.size
       = some { cls:=.type "set",dict:=none,data:=.set #[] 0 (.fresh 0 0 led) }:=Heap.get?_push_of_some _ hS
     exact ⟨_,#[],0,_,hg,⟨rfl,rfl,rfl⟩,rfl,fun e he => by simp at he,fun k => by simp [onceK],by decide,by rfl,rfl⟩
    case hR =>
     intro s' mv hS'
     obtain ⟨h',g',d',tk',os'⟩:=s'
     have eg:g' = s.gens:=mv.gens
     have ed:d' = s.drawn:=mv.drawn
     have eo:os' = s.os:=mv.os
     subst eg; subst ed; subst eo
     show wpAny _ _ _ _ _ _
     refine wpAny_pure ?_
     show wpAny _ _ (ret Value.none) _ _ _
     refine wpAny_pure ⟨rfl,h',tk',rfl,hS',fun b o hb e => ?_⟩
     refine mv.heap b o ?_ (Heap.get?_push_of_some _ (Heap.get?_push_of_some _ e))
     rw [Heap.size_push]
     simp only [List.mem_cons,List.mem_singleton,List.not_mem_nil,or_false,not_or]
     exact ⟨Nat.ne_of_lt hb,Nat.ne_of_lt (Nat.lt_succ_of_lt hb)⟩
   ·cases r₂ with
    | error e => exact hr₂
    | ok fl₂ =>
     cases fl₂ with
     | ret r =>
      obtain ⟨rfl,h',tk,rfl,hS',hk'⟩:=hr₂
      repeat (any_goals (first | assumption | wp_step))
      exact h _ _ hS' hk'
     | _ => exact hr₂.elim
  | _ => exact hr.elim
end
def keysP:List PV→Option (List Key)
 | [] => some []
 | x :: r => (keyP x).bind fun k => (keysP r).map fun ks => k :: ks
def lenSetM (m:EM PV):EM PV:=fun τ S => bnd (m τ S) fun p S1 => match p with
 | .tup xs => (match keysP xs with | some ks => if ks.length ≤ 4000 then .ok (.int (onceK [] ks).length) S1 else .bad | none => .bad)
 | _ => .bad
theorem keys_at {K:PySem.W.Frag} {ι : List Addr} {H:Hp}:∀ {xs:List PV} {ks:List Key} {vs:List V} {us:List Value},keysP xs = some ks→RpL K ι H xs vs→Vals vs us→ks.length = us.length∧∀ (i:Nat) v,us[i]? = some v→∃ k,ks[i]? = some k∧keyIs k v = true
 | [],ks,_,_,e,h,r => by
  cases e
  cases (show _ = _ from h)
  cases r
  exact ⟨rfl,fun i v h => by simp at h⟩
 | x :: xs,ks,_,_,e,h,r => by
  obtain ⟨v,w,rfl,h1,h2⟩:=h
  unfold keysP at e
  cases q:keyP x with
  | none => rw [q] at e; cases e
  | some k =>
   cases q2:keysP xs with
   | none => rw [q,q2] at e; cases e
   | some ks' =>
    rw [q,q2] at e
    cases e
    cases r with
    | cons r1 r2 =>
     obtain ⟨l,f⟩:=keys_at q2 h2 r2
     refine ⟨by simp [l],fun i v' hv => ?_⟩
     cases i with
     | zero =>
      simp at hv; subst hv
      refine ⟨k,rfl,?_⟩
      cases key_rp h1 q
      cases k with
      | inl i => obtain ⟨t,rfl⟩:=r1; exact keyIs_int i t
      | inr x => obtain ⟨t,rfl⟩:=r1; exact keyIs_str x t
     | succ i => exact f i v' (by simpa using hv)
theorem re_lenSet {X:Cx} {W:WX} {a:Expr} {ma:EM PV} {p p2 q pos:Pos} (hc:X.calm = true) (hg:Gl X "len") (hm:X.mg "len" = none) (hg2:Gl X "set") (hm2:X.mg "set" = none) (ha:RE X W a ma)
  (na:starEach [a] X.env = (false,eval a X.env) :: starEach [] X.env:=by rfl):RE X W (.Call (.Name "len" p) [.Call (.Name "set" p2) [a] [] q] [] pos) (lenSetM ma):=by
 have h0:PE X (.Call (.Name "len" p) [.Call (.Name "set" p2) [a] [] q] [] pos) (fun σ H Q => gE X W (rV X) ma σ H fun x H1 => ∃ ad vs ks,x = .ref ad∧FzT X.K H1 ad vs∧(∀ us,Vals vs us→ks.length = us.length∧∀ (i:Nat) v,us[i]? = some v→∃ k,ks[i]? = some k∧keyIs k v = true)∧ks.length ≤ 4000∧Q (.int (onceK [] ks).length) H1):=by
  refine ⟨fun pins s σ H Q I h => ?_⟩
  refine Call_ (ld_blt I hg hm boot_len (PyProof.Rows.callWith_builtin1 (PyProof.Rows.args_cons ?_ rfl) rfl rfl))
  refine Call_ (ld_blt I hg2 hm2 boot_set ?_)
  refine PyProof.Rows.callWith_type1 (PyProof.Rows.args_cons (thn (ha.pe.run pins s σ H _ I h) fun v s1 ⟨x,H1,I1,r1,ad,vs,ks,ex,hq,hks,hl,q1⟩ => PyProof.Rows.args_nil ?_) na) na rfl
  subst ex
  cases r1
  obtain ⟨its,r,pl,hz⟩:=I1.tuple hq.seq
  obtain ⟨k1,k2⟩:=hks its r
  refine call_setK (ks:=ks) (I1.ok.hd hc) pl (by simpa using k1) (fun i v hv => k2 i v (by simpa using hv)) (by
   show its.toArray.size + 1 < 4096
   rw [List.size_toArray,← k1]; omega) fun h' tk hS hk => ?_
  refine PyProof.Rows.args_nil ?_
  have hlen:=onceK_len ks []
  obtain ⟨o,es,ep,t,ho,hex,hd,_,_,_,hf,hn⟩:=hS
  have I2:Inv X pins σ H1 { s1 with heap:=h',toks:=tk }:=I1.kept fun b o e => hk b o (Heap.lt_size e) e
  refine call_len_set ho hex hd hf (by rw [hn]; simp at hlen; omega) ⟨.int (onceK [] ks).length,H1,I2.tok _,⟨_,by rw [hn]⟩,q1⟩
 refine ⟨pe_weak h0 fun σ H Q ⟨ι,τ,S,r,ρ,pk⟩ => ⟨ι,τ,S,r,ρ,pk.next.mono fun x H1 ⟨p,ι1,S1,e1,r1,q1,pk1⟩ => ?_⟩⟩
 split at pk1
 ·split at pk1
  ·rename_i ks hks
   split at pk1
   ·rename_i hl
    obtain ⟨ad,vs,rfl,h1,h2⟩:=q1
    exact ⟨ad,vs,ks,rfl,h1,fun us r => keys_at hks h2 r,hl,pk1 _ _ _ .refl r1 rfl⟩
   ·exact pk1.elim
  ·exact pk1.elim
 ·exact pk1.elim
end PL
namespace PL
open PySem PySem.Spec PyProof.Rows L2
structure DF (K:PySem.W.Frag) (x qual:Str) (st:Stmt) (ps:List Str) where
 a:Addr
 d:FuncData
 F:Fun K x qual st a d
 b:Binds K d ps []
structure DG (K:PySem.W.Frag) (mg:Str→Option Value) (x:Str) (st:Stmt) (ps:List Str) extends DF K x x st ps where
 g:mg x = some (.ref a)
section
variable {P:Program} {w:World} {K:PySem.W.Frag} {mg:Str→Option Value} {base:Heap}
theorem fn_bad {k:Nat} {f:Addr} {fd:FuncData} {ps:List Str} {n:Nat} (hn:n = ps.length:=by rfl):FnOk P w K mg base (L2.CX P w) k f fd ps (spD P w K mg n fun _ _ => .bad) :=
 ⟨fun vs H Q E h => (spD_len vs H Q E h).trans hn,fun A outer s H args us vs Q E hr e0 hb hv ⟨_,_,_,_,_,_,h⟩ => h.elim⟩
theorem re_globI {X:Cx} {W:WX} {pos:Pos} {x:Str} {i:Int} {t:Tok} (hg:Gl X x) (hm:X.mg x = some (.int i t)) (hd:(x == ("__debug__" : Str)) = false:=by decide):RE X W (.Name x pos) (cV (.int i)):=re_glob (w:=.int i) hg hm ⟨_,rfl⟩ (fun _ _ => rfl) hd
theorem re_globS {X:Cx} {W:WX} {pos:Pos} {x:Str} {i:Str} {t:Tok} (hg:Gl X x) (hm:X.mg x = some (.str i t)) (hd:(x == ("__debug__" : Str)) = false:=by decide):RE X W (.Name x pos) (cV (.str i)):=re_glob (w:=.str i) hg hm ⟨_,rfl⟩ (fun _ _ => rfl) hd
theorem hu65_of {A:Around} {k:Nat} (hr:Room k A):A.units + 65 < cLine:=by have:=hr.un; omega
theorem fn_body {x qual:Str} {st:Stmt} {f:Addr} {fd:FuncData} {N ps:List Str} {k n:Nat} {body:SM} (F:Fun K x qual st f fd) (S:FnScope N ps (defScope st)) (hn:ps.length = n)
  (h:∀ (cdv:Value) (A:Around) (outer:List Env) (s:Shared) (H:Hp) (Q:VK) (E:XK),Room k (A.deeper (envOfC qual (defScope st) s.heap.objs.size f cdv)) →
   RSs (cxOf (L2.CX P w) P w K mg base N qual (defScope st) f cdv A outer s H E) (fun cls d _ H => E cls d H) (defBody st) body) :
  FnOk P w K mg base (L2.CX P w) (k + 1) f fd ps (spD P w K mg n (callS N.length body)):=by
 refine F.okX S (fun vs H Q E hh => (spD_len vs H Q E hh).trans hn.symm) fun cdv A outer s H vs Q E hr ⟨ι,Sto,qs,r,rv,l,hw⟩ => ⟨_,(h cdv A outer s H Q E hr).pss,?_⟩
 refine ⟨ι,startE N.length qs,Sto,r,REn.start rv,?_⟩
 unfold callS at hw
 cases hb:body (startE N.length qs) Sto with
 | nx τ S' => rw [hb] at hw; exact fun ι' H' σ' e r' _ => hw ι' H' .non e r' rfl
 | rt v S' => rw [hb] at hw; exact hw
 | er c p τ S' => rw [hb] at hw; exact fun ι' H' σ' Ca d x e r' _ m hd hp => hw ι' H' Ca d x e r' m hd hp
 | bad => rw [hb] at hw; exact hw.elim
theorem cx_end {P:Program} {w:World} {H:Hp} {s:Shared} {e:Value} {s':Shared} (h:L2.CX P w [] H s (fun _ _ _ => False) e s'):False:=by
 obtain ⟨_,_,_,_,_,_,_,_,_,_,_,_,z⟩:=h
 exact z
theorem Fun.kbindsW {x qual:Str} {st:Stmt} {f:Addr} {fd:FuncData} {ps ks:List Str} {g:List Value→List Value→List Value} {gV:List V→List V→List V} (F:Fun K x qual st f fd)
  (h:∀ (kV doc pm:Value) (an:Option Addr) (cdv ct:Value) (us ws:List Value),(g us ws).length = ps.length→bindArgs (PySem.W.fnOf x qual (defArgs st) (defBody st) (defScope st) .none kV doc pm an cdv ct) ⟨us,ks.zip ws⟩ = pure (ps.zip (g us ws)))
  (hrel:∀ {vs:List V} {us:List Value} {zs:List V} {ws:List Value},Vals vs us→Vals zs ws→Vals (gV vs zs) (g us ws)):KBinds K fd ps ks g gV:=by
 obtain ⟨oc,od,kV,doc,pm,an,cdv,ct,osl,rfl,lk,hcd⟩:=F.ex
 exact ⟨fun s us ws _ hl => .of_eq (h kV doc pm an cdv ct us ws hl),hrel⟩
end
theorem pip_of {X:Cx} {op:Operator} {f:Int→Int→Int} (h:PIp X op (ipI f)):PIp X op (gOp X (intOp fun i j => some (.int (f i j)))):=by
 intro pins s σ H x y v u Q I rx ry ⟨ι,S,p,q,z,S',rs,rp,rq,hf,k⟩
 unfold intOp at hf
 split at hf
 ·cases hf
  cases (show x = _ from rp)
  cases (show y = _ from rq)
  exact h pins s σ H _ _ v u Q I rx ry ⟨_,_,rfl,rfl,k _ _ _ .refl rs rfl⟩
 ·cases hf
theorem pip_sub {X:Cx}:PIp X .Sub (gOp X subP):=pip_of ip_sub
end PL
namespace PL
open PySem PySem.Spec PyProof.Rows L2
structure ExT (K:PySem.W.Frag) (mg:Str→Option Value) (c:Str) (C fI:Addr):Prop where
 g:mg c = some (.ref C)
 o:OexC K C
 ini:PySem.W.findIn K (.ref C) "__init__" = some (some (.ref fI))
 na:PySem.W.findIn K (.ref C) "what" = some none
def spI (K:PySem.W.Frag):Sp:=fun vs H Q _ => ∃ (a C:Addr) (x:V),vs = [.ref a,x]∧OexC K C∧PySem.W.findIn K (.ref C) "what" = some none∧H a = some (exo a C none) ∧
 ∀ dx,H dx = none→dx ≠ a→Q .non (upd (upd H dx (exd dx [("what",x)])) a (exo a C (some dx)))
section
variable {P:Program} {w:World} {K:PySem.W.Frag} {mg:Str→Option Value} {base:Heap}
theorem fn_init {x qual:Str} {st:Stmt} {f:Addr} {fd:FuncData} {p1 p2 p3 p4:Pos} (F:Fun K x qual st f fd) (S:FnScope ["self", "what"] ["self", "what"] (defScope st)) (hb:defBody st = [.Assign [.Attribute (.Name "self" p1) "what" p2] (.Name "what" p3) p4]) {k:Nat} :
  FnOk P w K mg base (L2.CX P w) (k + 1) f fd ["self", "what"] (spI K):=by
 refine F.okX S (fun vs H Q E ⟨a,C,x,e,_⟩ => by rw [e]; rfl) fun cdv A outer s H vs Q E hr ⟨a,C,x,e,T,na,ha,hq⟩ => ?_
 rw [hb]
 subst e
 have v1:Vis (defScope st) "self" := (S.par "self" (by simp)).elim .inl fun h => .inr (.inl h)
 have v2:Vis (defScope st) "what" := (S.par "what" (by simp)).elim .inl fun h => .inr (.inl h)
 refine ⟨_,pss_one (ps_ost (pe_var (i:=0) rfl v1) (pe_var (i:=1) rfl v2)),?_⟩
 exact ⟨x,rfl,.ref a,rfl,a,C,rfl,T,na,.inl ⟨ha,fun dx n ne => hq dx n ne⟩⟩
end
def raiseS (C:Str) (m:EM PV):SM:=fun τ S => bndS (m τ S) τ fun v S1 => .er C v τ S1
section
variable {X:Cx} {W:WX} {e:Expr} {ma:EM PV} {p pos pos':Pos}
theorem del_upd {H:Hp} {a dx:Addr} {o o' u:HO} (ha:H a = none) (hd:H dx = none) (hne:dx ≠ a):upd (del (upd (upd (upd H a o) dx u) a o') a) dx (.xd []) = upd H dx (.xd [])∧∀ x,upd (del (upd (upd (upd H a o) dx u) a o') a) dx x = upd H dx x:=by
 have key:∀ x,upd (del (upd (upd (upd H a o) dx u) a o') a) dx x = upd H dx x:=by
  intro x
  funext b
  by_cases h1:b = dx
  ·subst h1; rw [upd_same,upd_same]
  ·rw [upd_ne h1,upd_ne h1]
   by_cases h2:b = a
   ·subst h2; rw [del_same,ha]
   ·rw [del_ne h2,upd_ne h2,upd_ne h1,upd_ne h2]
 exact ⟨key _,key⟩
theorem rs_raise {c:Str} {C fI:Addr} {fd:FuncData} {k:Nat} (T:ExT X.K X.mg c C fI) (tI:PySem.W.typeIn X.K (.ref fI) = some (.type "function")) (F1:FnOk X.prog X.w X.K X.mg X.base (L2.CX X.prog X.w) k fI fd ["self", "what"] (spI X.K)) (hr:Room (k + 1) X.A)
  (hb:Binds X.K fd ["self", "what"] []) (hg:Gl X c) (hc:X.calm = true) (tk:Takes X W) (ha:RE X W e ma)
  (hdb:(c == ("__debug__" : Str)) = false:=by decide) (he:starEach [e] X.env = (false,eval e X.env) :: starEach [] X.env:=by rfl) (hpl:(backTo pos (starEach [] X.env)).any (·.1) = false:=by rfl) :
  RS X W (.Raise (some (.Call (.Name c p) [e] [] pos)) none pos') (raiseS c ma):=by
 refine ⟨ps_weak (ps_raise hc tk (pmk_oex T.o T.ini tI F1 hr hb (dvs:=[]) .nil passL hg T.g (pa_cons ha.pe pa_nil he) hdb he hpl)) fun D σ H ⟨ι,τ,S,r,ρ,pk⟩ => ?_⟩
 refine ⟨ι,τ,S,r,ρ,(PkS.next (R:=rV X) ρ pk).mono fun x H1 ⟨q,ι1,S1,e1,r1,q1,pk1⟩ => ?_⟩
 refine ⟨by simp,fun a hn => ⟨a,C,x,rfl,T.o,T.na,upd_same,fun dx hdx hne => ?_⟩⟩
 have hd1:H1 dx = none:=by rw [upd_ne hne] at hdx; exact hdx
 refine ⟨rfl,dx,[("what",x)],upd_same,by rw [upd_ne hne,upd_same],hd1,?_⟩
 rw [(del_upd hn hd1 hne).2]
 obtain ⟨E,r2⟩:=r1.tup (ho:=.xd [("what",x)]) hd1
 exact pk1 ι1 _ σ C dx x E r2 ((ρ.up e1).up E) T.g upd_same (q1.up E)
end
structure FX (X:Cx) (cs:List (Str × Bool)) (a:Addr) (cls:Value) (d:Option Addr) (i:Nat) (ι : List Addr) (H:Hp) (S:Sto) (σ : L2.St) (c:Str) (p:PV) (x:V) (dd Ca:Addr):Prop where
 r:RSt X.prog X.w X.K X.mg ι H S
 at_ : σ[i]? = some (some (.ref a))
 m:X.mg c = some (.ref Ca)
 cl:cls = .ref Ca
 ed:d = some dd
 hd:H dd = some (.xd [("what",x)])
 rp:Rp X.K ι H p x
 lk:cs.lookup c = some true
theorem OR.no_xd {K:PySem.W.Frag} {mg:Str→Option Value} {ι : List Addr} {H:Hp} {a:Addr} {o:Ob} {fs:List (Str × V)} (h:OR ΩP Ωw K mg ι H a o) (e:H a = some (.xd fs)):False:=by
 cases o with
 | lst xs => obtain ⟨vs,q,_⟩:=h; rw [e] at q; cases q
 | dct kvs => obtain ⟨vs,q,_⟩:=h; rw [e] at q; cases q
 | ins C fs => obtain ⟨Ca,dx,ws,_,q,_⟩:=h; rw [e] at q; cases q
 | dtp kvs => obtain ⟨vs,q,_⟩:=h; rw [e] at q; cases q
 | tab nm kvs => obtain ⟨⟨vs,q,_⟩,_⟩:=h; rw [e] at q; cases q
 | exc C p => obtain ⟨_,_,_,_,q,_⟩:=h; rw [e] at q; cases q
 | ndt kvs => obtain ⟨vs,q,_⟩:=h; rw [e] at q; cases q
theorem FX.up {X:Cx} {cs:List (Str × Bool)} {a:Addr} {cls:Value} {d:Option Addr} {i:Nat} {ι ι':List Addr} {H H':Hp} {S:Sto} {σ : L2.St} {c:Str} {p:PV} {x:V} {dd Ca:Addr} (f:FX X cs a cls d i ι H S σ c p x dd Ca)
  (e:Ext ι H ι' H') (r:RSt X.prog X.w X.K X.mg ι' H' S):FX X cs a cls d i ι' H' S σ c p x dd Ca:=by
 have hn:dd ∉ ι:=fun h => by
  obtain ⟨l,o,_,_,ho⟩:=f.r.mem h
  exact ho.no_xd f.hd
 exact ⟨r,f.at_,f.m,f.cl,f.ed,e.fr dd _ f.hd hn,f.rp.up e,f.lk⟩
section
variable {X:Cx} {W:WX} {cs:List (Str × Bool)} {i:Nat} {e:Expr} {es:List Expr} {v:Str→PV→PV} {vs:Str→PV→List PV} {pos:Pos}
theorem REn.len {K:PySem.W.Frag} {ι : List Addr} {H:Hp}:∀ {τ : En} {σ : L2.St},REn K ι H τ σ→τ.length = σ.length
 | [],_,h => by have h:_ = []:=h; subst h; rfl
 | none :: τ,_,h => by
  obtain ⟨r,rfl,q⟩:=h
  simp [REn.len q]
 | some x :: τ,_,h => by
  obtain ⟨v,r,rfl,_,q⟩:=h
  simp [REn.len q]
end
end PL
namespace PL
open PySem PySem.Spec PyProof.Rows L2
end PL
namespace PL
open PySem PySem.Spec PyProof.Rows L2
section
variable {X:Cx} {W:WX} {e:Expr} {ma:EM PV} {pos:Pos}
end
end PL
set_option maxHeartbeats 2000000
namespace PL
open PySem PySem.Spec PyProof.Rows L2
theorem q_mul_int (l:Addr) (items:Array Value) (n:Nat) (d:Option Addr) (sl:Array (Option Value)) (x:Int) (u:Tok) (hc0:¬(!Builtin.List.listFitsIndex x) = true)
  (hc1:¬items.size * x.toNat > (2 ^ 63 - 1) / 8) (hc2:¬Builtin.List.listTooLong (items.size * x.toNat) = true) :
  Meets (Builtin.«list.__mul__» ⟨[.ref l,.int x u],[]⟩) (fun _ R s => s.heap.get? l = some { cls:=.type "list",dict:=d,data:=.seq items n,slots:=sl }∧R (.ok (.ret (Value.ref s.heap.objs.size))) { s with heap:=s.heap.push { cls:=Value.type "list",data:=Data.seq (List.foldl (fun x1 x2 => x1 ++ x2) #[] (List.replicate (if items.isEmpty = true then 0 else x.toNat) items)) },toks:=s.toks }) :=
 .of_wp fun prog w A R s h => by
  obtain ⟨hp,g,d,tk,os⟩:=s; obtain ⟨hl,h⟩:=h
  have hsz:=AutoListH.joined_fits hc2
  wp_walk; refine wpAny_ite_false (decide_eq_false (Nat.not_lt.mpr hsz)) ?_; wp_walk; exact ⟨_,rfl,h⟩
theorem q_rmul_int (a:Int) (t:Tok) (l:Addr) (items:Array Value) (n:Nat) (d:Option Addr) (sl:Array (Option Value)) :
  Meets (Builtin.«int.__rmul__» ⟨[.int a t,.ref l],[]⟩) (fun _ R s => s.heap.get? l = some { cls:=.type "list",dict:=d,data:=.seq items n,slots:=sl }∧R (.ok (.ret Value.notImplemented)) s) :=
 .of_wp fun prog w A R s h => by obtain ⟨hp,g,d,tk,os⟩:=s; obtain ⟨hl,h⟩:=h; wp_walk; exact ⟨_,rfl,h⟩
theorem vals_rep {xs:List V} {its:List Value} (r:Vals xs its):∀ n:Nat,Vals (List.replicate n xs).flatten (List.replicate n its).flatten
 | 0 => .nil
 | n + 1 => by rw [List.replicate_succ,List.replicate_succ,List.flatten_cons,List.flatten_cons]; exact r.append (vals_rep r n)
theorem len_rep {α : Type} (xs:List α):∀ n:Nat,(List.replicate n xs).flatten.length = xs.length * n
 | 0 => by simp
 | n + 1 => by rw [List.replicate_succ,List.flatten_cons,List.length_append,len_rep xs n,Nat.mul_succ]; omega
theorem op_mul_li {X:Cx}:OpR X (binaryOp .Mult) (fun x y H Q => ∃ (a:Addr) (xs:List V) (k:Int),x = V.ref a∧y = V.int k∧SqL X.K H a xs∧k ≤ 1000∧xs.length * k.toNat ≤ 16777216∧(0 ≤ k)∧∀ p,H p = none→Q (.ref p) (upd H p (.lst (List.replicate k.toNat xs).flatten))):=by
 intro pins s σ H x y v u Q I rx ry h
 obtain ⟨a,xs,k,rfl,rfl,hs,hk,hz2,hk0,q⟩:=h
 obtain rfl:v = Value.ref a:=rx
 obtain ⟨t,rfl⟩:=ry
 obtain ⟨its,rv,⟨⟨cls,dd,data,sl⟩,n,ho,hc,hdn,hd⟩,hlen⟩:=I.list hs
 have hc1:cls = Value.type "list" := hc
 have hd1:data = Data.seq its.toArray n:=hd
 subst hc1 hd1
 have hsl:=sizeLine_eq
 have hle:its.length = xs.length:=rv.length.symm
 have hm:its.toArray.size * k.toNat ≤ 16777216:=by
  rw [List.size_toArray,hle]; exact hz2
 refine wpAny_binaryOp_repeat_ref (T := "list") (U := "int") (by decide) ⟨_,ho,rfl⟩ (fun s' => rfl) noFill_list_mul F.fills_int_mul F.slot_int_rmul repeat_list F.slot_int_index.lookup
  (call_meets F.slot_int_rmul rfl F.entry_int_rmul (F.args_int_rmul_2 _ _) (q_rmul_int k t a its.toArray n dd sl)
   ⟨ho,rfl,⟨_,ho,rfl⟩,call_meets F.slot_list_mul ⟨_,ho,rfl⟩ F.entry_list_mul (F.args_list_mul_2 _ _)
    (q_mul_int a its.toArray n dd sl k t (by simp [Builtin.List.listFitsIndex]; omega) (by omega) (by simp only [Builtin.List.listTooLong,decide_eq_true_eq]; omega))
    ⟨ho,?_⟩⟩)
 have e:List.foldl (fun x1 x2 => x1 ++ x2) #[] (List.replicate (if its.toArray.isEmpty = true then 0 else k.toNat) its.toArray) = (List.replicate k.toNat its).flatten.toArray:=by
  rw [listMul_foldl_if]
 rw [e]
 refine ⟨.ref s.heap.objs.size,upd H s.heap.objs.size (.lst (List.replicate k.toNat xs).flatten),I.laid (t':=s.toks) (fun b o e => Heap.get?_push_of_some _ e) (Nat.le_refl _) ⟨?_,_,0,vals_rep rv _,Heap.get?_push_size _ rfl⟩,rfl,q _ (I.hok.fresh (Nat.le_refl _))⟩
 rw [len_rep,hsl]; exact hz2
def mulLP:Op2:=fun p q S => match p,q with
 | .loc l,.int k => (match S[l]? with
  | some (.lst xs) => if 0 ≤ k∧k ≤ 1000∧xs.length * k.toNat ≤ 16777216 then some (.loc S.length,S ++ [.lst (List.replicate k.toNat xs).flatten]) else none
  | _ => none)
 | _,_ => none
theorem RpL.rep {K:PySem.W.Frag} {ι : List Addr} {H:Hp} {xs:List PV} {vs:List V} (h:RpL K ι H xs vs):∀ n:Nat,RpL K ι H (List.replicate n xs).flatten (List.replicate n vs).flatten
 | 0 => rfl
 | n + 1 => by rw [List.replicate_succ,List.replicate_succ,List.flatten_cons,List.flatten_cons]; exact h.app (RpL.rep h n)
theorem og_mulL {X:Cx}:OpR X (binaryOp .Mult) (gOp X mulLP):=by
 intro pins s σ H x y v u Q I rx ry ⟨ι,S,p,q,z,S',rs,rp,rq,hf,k⟩
 unfold mulLP at hf
 split at hf
 ·rename_i l n
  split at hf
  ·rename_i xs hS
   split at hf
   ·rename_i hc
    cases hf
    obtain ⟨a,rfl,h1⟩:=rp
    cases (show y = _ from rq)
    obtain ⟨vs,h2,h3⟩:=rs.obj _ a _ h1 hS
    refine op_mul_li pins s σ H _ _ v u Q I rx ry ⟨a,vs,n,rfl,rfl,.inl (.inl h2),hc.2.1,by rw [← h3.length]; exact hc.2.2,hc.1,fun p hp => ?_⟩
    obtain ⟨E,r4,q4⟩:=rs.new_lst hp (h3.rep n.toNat)
    exact k _ _ _ E r4 q4
   ·cases hf
  ·cases hf
 ·cases hf
end PL
namespace PL
open PySem PySem.Spec PyProof.Rows L2
section
variable {α β : Type}
def wK (f : α→Sto→Out β) (P : β→Sto→Prop) (R:Str→PV→Sto→Prop) : α→Sto→Prop:=fun a S => wp (f a S) P R
def wKS (f : α→Sto→OS) (N:En→Sto→Prop) (T:PV→Sto→Prop) (R:Str→PV→En→Sto→Prop) : α→Sto→Prop:=fun a S => wpS (f a S) N T R
def rK (R:Str→PV→En→Sto→Prop) (τ : En):Str→PV→Sto→Prop:=fun c p S => R c p τ S
def sK (k:SM) (N:En→Sto→Prop) (T:PV→Sto→Prop) (R:Str→PV→En→Sto→Prop):En→Sto→Prop:=fun τ S => wpS (k τ S) N T R
def nonK (P:PV→Sto→Prop):En→Sto→Prop:=fun _ S => P .non S
def dropK (R:Str→PV→Sto→Prop):Str→PV→En→Sto→Prop:=fun c p _ S => R c p S
def noK:Str→PV→Sto→Prop:=fun _ _ _ => False
def newK (P:PV→Sto→Prop):List PV→Sto→Prop:=fun acc S => P (.loc S.length) (S ++ [.lst acc])
@[simp] theorem e_bnd (o:Out α) (f : α→Sto→Out β) (P : β→Sto→Prop) (R:Str→PV→Sto→Prop):wp (bnd o f) P R = wp o (wK f P R) R:=wp_bnd o f P R
@[simp] theorem e_bndS (o:Out α) (τ : En) (f : α→Sto→OS) (N:En→Sto→Prop) (T:PV→Sto→Prop) (R:Str→PV→En→Sto→Prop):wpS (bndS o τ f) N T R = wp o (wKS f N T R) (rK R τ):=wpS_bndS o τ f N T R
@[simp] theorem e_seqO (o:OS) (k:SM) (N:En→Sto→Prop) (T:PV→Sto→Prop) (R:Str→PV→En→Sto→Prop):wpS (seqO o k) N T R = wpS o (sK k N T R) T R:=wpS_seqO o k N T R
@[simp] theorem e_wK (f : α→Sto→Out β) (P : β→Sto→Prop) (R:Str→PV→Sto→Prop) (a : α) (S:Sto):wK f P R a S = wp (f a S) P R:=rfl
@[simp] theorem e_wKS (f : α→Sto→OS) (N:En→Sto→Prop) (T:PV→Sto→Prop) (R:Str→PV→En→Sto→Prop) (a : α) (S:Sto):wKS f N T R a S = wpS (f a S) N T R:=rfl
@[simp] theorem e_rK (R:Str→PV→En→Sto→Prop) (τ : En) (c:Str) (p:PV) (S:Sto):rK R τ c p S = R c p τ S:=rfl
@[simp] theorem e_sK (k:SM) (N:En→Sto→Prop) (T:PV→Sto→Prop) (R:Str→PV→En→Sto→Prop) (τ : En) (S:Sto):sK k N T R τ S = wpS (k τ S) N T R:=rfl
@[simp] theorem e_nonK (P:PV→Sto→Prop) (τ : En) (S:Sto):nonK P τ S = P .non S:=rfl
@[simp] theorem e_dropK (R:Str→PV→Sto→Prop) (c:Str) (p:PV) (τ : En) (S:Sto):dropK R c p τ S = R c p S:=rfl
@[simp] theorem e_noK (c:Str) (p:PV) (S:Sto):noK c p S = False:=rfl
@[simp] theorem zq0 (P:PV→Sto→Prop) (acc:List PV) (S:Sto):newK P acc S = P (.loc S.length) (S ++ [.lst acc]):=rfl
@[simp] theorem e_noEr (o:Out α) (P : α→Sto→Prop) (R:Str→PV→Sto→Prop):wp (noEr o) P R = wp o P noK:=by cases o <;> rfl
@[simp] theorem e_newL (o:Out (List PV)) (P:PV→Sto→Prop) (R:Str→PV→Sto→Prop):wp (newL o) P R = wp o (newK P) R:=by cases o <;> rfl
theorem callS_wp {n:Nat} {b:SM} {ps:List PV} {S:Sto} {P:PV→Sto→Prop} {R:Str→PV→Sto→Prop}:wp (callS n b ps S) P R = wpS (b (startE n ps) S) (nonK P) P (dropK R):=by
 unfold callS
 cases b (startE n ps) S <;> rfl
@[simp] theorem wp_ite {c:Prop} [Decidable c] {a b:Out α} {P : α→Sto→Prop} {R:Str→PV→Sto→Prop}:wp (if c then a else b) P R↔((c→wp a P R)∧(¬ c→wp b P R)):=by
 split <;> simp_all
@[simp] theorem wpS_ite {c:Prop} [Decidable c] {a b:OS} {N:En→Sto→Prop} {T:PV→Sto→Prop} {R:Str→PV→En→Sto→Prop}:wpS (if c then a else b) N T R↔((c→wpS a N T R)∧(¬ c→wpS b N T R)):=by
 split <;> simp_all
def blO:PV→Sto→Out Bool:=fun v S => match v with | .bl b => .ok b S | _ => .bad
def truO:PV→Sto→Out Bool:=fun p S => match truP p S with | some b => .ok b S | none => .bad
def isNO:PV→Sto→Out PV:=fun p S => .ok (.bl (isNon p)) S
def notNO:PV→Sto→Out PV:=fun p S => .ok (.bl (!isNon p)) S
def notO:Bool→Sto→Out Bool:=fun k S => .ok (!k) S
def notVO:PV→Sto→Out PV:=fun v S => match v with | .bl k => .ok (.bl (!k)) S | _ => .bad
def oSO:PV→Sto→Out (Option Int):=fun p S => match p with | .int i => .ok (some i) S | _ => .bad
def tupO:List PV→Sto→Out PV:=fun ps S => if ps.length ≤ 16777216 then .ok (.tup ps) S else .bad
def lstO:List PV→Sto→Out PV:=fun ps S => if ps.length ≤ 16777216 then .ok (.loc S.length) (S ++ [.lst ps]) else .bad
def opO (f:Op2) (p:PV):PV→Sto→Out PV:=fun q S => lift (f p q S)
def unO (f:PV→Sto→Option (PV × Sto)):PV→Sto→Out PV:=fun p S => lift (f p S)
def callO (f:OpN):List PV→Sto→Out PV:=fun ps S => lift (f ps S)
def isiO (T:String):PV→Sto→Out PV:=fun p S => match isiP T p S with | some b => .ok (.bl b) S | none => .bad
def seqMO:PV→Sto→Out Wk:=fun p S => match itrP p S with | some t => .ok t S | none => .bad
noncomputable def rng1O:PV→Sto→Out Wk:=fun p S => match p with | .int n => if rngOk n then .ok ⟨rngI 0 n,[]⟩ S else .bad | _ => .bad
def consO (p:PV):List PV→Sto→Out (List PV):=fun ps S => .ok (p :: ps) S
def fldO (C f:Str):PV→Sto→Out PV:=fun p S1 => match p with
 | .loc l => match S1[l]? with
  | some (.ins C' fs) => if C' = C then (match fs.lookup f with | some v => .ok v S1 | none => .bad) else .bad
  | _ => .bad
 | _ => .bad
def setLenO:PV→Sto→Out PV:=fun p S1 => match p with
 | .tup xs => (match keysP xs with | some ks => if ks.length ≤ 4000 then .ok (.int (onceK [] ks).length) S1 else .bad | none => .bad)
 | _ => .bad
def madeO (l:Nat):PV→Sto→Out PV:=fun v S => match v with | .non => .ok (.loc l) S | _ => .bad
def nxO (τ : En):PV→Sto→OS:=fun _ S => .nx τ S
def rtO:PV→Sto→OS:=fun v S => .rt v S
def asgO (g:GM) (τ : En):PV→Sto→OS:=fun v S => match g v τ with | some τ1 => .nx τ1 S | none => .bad
def setO3 (τ : En) (v o:PV):PV→Sto→OS:=fun i S => match setP o i v S with | some S4 => .nx τ S4 | none => .bad
def setfO (C f:Str) (τ : En) (v:PV):PV→Sto→OS:=fun p S2 => match p with
 | .loc l => match S2[l]? with
  | some (.ins C' fs) => if C' = C∧fs.length < 1000 then .nx τ (S2.set l (.ins C (putG f v fs))) else .bad
  | _ => .bad
 | _ => .bad
def augO (i:Nat) (τ : En) (f:Op2) (x:PV):PV→Sto→OS:=fun y S => match f x y S with | some (z,S2) => .nx (τ.set i (some z)) S2 | none => .bad
def bin1 (f:Op2) (b:EM PV) (τ : En):PV→Sto→Out PV:=fun p S => bnd (b τ S) (opO f p)
def ch1 (f f':Op2) (b c:EM PV) (τ : En):PV→Sto→Out PV:=fun p S => bnd (b τ S) fun q S2 => bnd (lift (f p q S2)) fun v S3 =>
 match v with | .bl true => bnd (c τ S3) fun z S4 => lift (f' q z S4) | .bl false => .ok (.bl false) S3 | _ => .bad
def ch2 (f f':Op2) (c:EM PV) (τ : En) (p:PV):PV→Sto→Out PV:=fun q S2 => bnd (lift (f p q S2)) fun v S3 =>
 match v with | .bl true => bnd (c τ S3) fun z S4 => lift (f' q z S4) | .bl false => .ok (.bl false) S3 | _ => .bad
def ch3 (f':Op2) (c:EM PV) (τ : En) (q:PV):PV→Sto→Out PV:=fun v S3 => match v with | .bl true => bnd (c τ S3) fun z S4 => lift (f' q z S4) | .bl false => .ok (.bl false) S3 | _ => .bad
def andO (t:EM Bool) (τ : En):Bool→Sto→Out Bool:=fun k S => if k = true then t τ S else .ok false S
def orO (t:EM Bool) (τ : En):Bool→Sto→Out Bool:=fun k S => if k = true then .ok true S else t τ S
def andVO (t:EM PV) (τ : En):PV→Sto→Out PV:=fun v S => match v with | .bl true => t τ S | .bl false => .ok (.bl false) S | _ => .bad
def orTO (t:EM PV) (τ : En):PV→Sto→Out PV:=fun v S => match truP v S with | some true => .ok v S | some false => t τ S | none => .bad
def ifO {γ : Type} (s t:EM γ) (τ : En):Bool→Sto→Out γ:=fun k S => if k = true then s τ S else t τ S
def aC1 (ms:EM (List PV)) (τ : En):PV→Sto→Out (List PV):=fun p S => bnd (ms τ S) (consO p)
def sl1 (lo hi:EM (Option Int)) (τ : En):PV→Sto→Out PV:=fun p S => bnd (lo τ S) fun l S2 => bnd (hi τ S2) fun h S3 => lift (slP p l h S3)
def sl2 (hi:EM (Option Int)) (τ : En) (p:PV):Option Int→Sto→Out PV:=fun l S => bnd (hi τ S) fun h S3 => lift (slP p l h S3)
def sl3 (p:PV) (l:Option Int):Option Int→Sto→Out PV:=fun h S => lift (slP p l h S)
def mt1 (T:String) (f:OpM) (ms:EM (List PV)) (τ : En):PV→Sto→Out PV:=fun p S1 => if isTy T p S1 = true then bnd (ms τ S1) fun ps S2 => lift (f p ps S2) else .bad
def mt2 (f:OpM) (p:PV):List PV→Sto→Out PV:=fun ps S => lift (f p ps S)
noncomputable def comp1 (g:GM) (tt:EM Bool) (el:EM PV) (vs:List Nat) (τ : En):Wk→Sto→Out PV:=fun t S1 => newL (accL t g (stepE tt el) [] t.items (wipeE τ vs) S1)
noncomputable def comp2a (g:GM) (tt:EM Bool) (m1:EM Wk) (g1:GM) (tt1:EM Bool) (el:EM PV) (vs vs1:List Nat) (τ : En):Wk→Sto→Out PV:=fun t S1 => newL (accL t g (stepI tt m1 g1 tt1 el vs1) [] t.items (wipeE τ vs) S1)
def m2a (f:PV→PV→PV→Sto→Option (PV × Sto)) (ma mb:EM PV) (τ : En):PV→Sto→Out PV:=fun d S1 => if isDct d S1 = true then bnd (ma τ S1) fun k S2 => bnd (mb τ S2) fun x S3 => lift (f d k x S3) else .bad
def m2b (f:PV→PV→PV→Sto→Option (PV × Sto)) (mb:EM PV) (τ : En) (d:PV):PV→Sto→Out PV:=fun k S2 => bnd (mb τ S2) fun x S3 => lift (f d k x S3)
def m2c (f:PV→PV→PV→Sto→Option (PV × Sto)) (d k:PV):PV→Sto→Out PV:=fun x S3 => lift (f d k x S3)
def meth1 (C m:Str) (F:FM) (g:List PV→List PV) (ms:EM (List PV)) (τ : En):PV→Sto→Out PV:=fun p S1 => if isIns C m p S1 = true then bnd (ms τ S1) fun ps S2 => F (p :: g ps) S2 else .bad
def meth2 (F:FM) (g:List PV→List PV) (p:PV):List PV→Sto→Out PV:=fun ps S2 => F (p :: g ps) S2
def make1 (C:Str) (F:FM) (g:List PV→List PV):List PV→Sto→Out PV:=fun ps S1 => bnd (F (.loc S1.length :: g ps) (S1 ++ [.ins C []])) (madeO S1.length)
def ifK (s t:SM) (τ : En):Bool→Sto→OS:=fun k S => if k = true then s τ S else t τ S
def setO1 (mo mi:EM PV) (τ : En):PV→Sto→OS:=fun v S1 => bndS (mo τ S1) τ fun o S2 => bndS (mi τ S2) τ fun i S3 => match setP o i v S3 with | some S4 => .nx τ S4 | none => .bad
def setO2 (mi:EM PV) (τ : En) (v:PV):PV→Sto→OS:=fun o S2 => bndS (mi τ S2) τ fun i S3 => match setP o i v S3 with | some S4 => .nx τ S4 | none => .bad
def setf1 (C f:Str) (mo:EM PV) (τ : En):PV→Sto→OS:=fun v S => bndS (mo τ S) τ (setfO C f τ v)
noncomputable def for1 (g:GM) (b:SM) (τ : En):Wk→Sto→OS:=fun t S1 => forL t g b t.items τ S1
def step1 (el:EM PV) (acc:List PV) (τ : En):Bool→Sto→Out (List PV):=fun k S1 => if k = true then bnd (noEr (el τ S1)) fun y S2 => if acc.length < 16777216 then .ok (acc ++ [y]) S2 else .bad else .ok acc S1
def step2 (acc:List PV):PV→Sto→Out (List PV):=fun y S2 => if acc.length < 16777216 then .ok (acc ++ [y]) S2 else .bad
noncomputable def stepI1 (m1:EM Wk) (g1:GM) (tt1:EM Bool) (el:EM PV) (vs1:List Nat) (acc:List PV) (τ : En):Bool→Sto→Out (List PV):=fun k S1 => if k = true then bnd (noEr (m1 τ S1)) fun t1 S2 => accL t1 g1 (stepE tt1 el) acc t1.items (wipeE τ vs1) S2 else .ok acc S1
noncomputable def stepI2 (g1:GM) (tt1:EM Bool) (el:EM PV) (vs1:List Nat) (acc:List PV) (τ : En):Wk→Sto→Out (List PV):=fun t1 S2 => accL t1 g1 (stepE tt1 el) acc t1.items (wipeE τ vs1) S2
@[simp] theorem e_blO (b:Bool) (S:Sto):blO (.bl b) S = .ok b S:=rfl
@[simp] theorem e_truO (p:PV) (S:Sto):truO p S = match truP p S with | some b => .ok b S | none => .bad:=rfl
@[simp] theorem e_isNO (p:PV) (S:Sto):isNO p S = .ok (.bl (isNon p)) S:=rfl
@[simp] theorem e_notNO (p:PV) (S:Sto):notNO p S = .ok (.bl (!isNon p)) S:=rfl
@[simp] theorem e_notO (k:Bool) (S:Sto):notO k S = .ok (!k) S:=rfl
@[simp] theorem e_notVO (k:Bool) (S:Sto):notVO (.bl k) S = .ok (.bl (!k)) S:=rfl
@[simp] theorem e_oSO (i:Int) (S:Sto):oSO (.int i) S = .ok (some i) S:=rfl
@[simp] theorem e_tupO (ps:List PV) (S:Sto):tupO ps S = if ps.length ≤ 16777216 then .ok (.tup ps) S else .bad:=rfl
@[simp] theorem zq2 (ps:List PV) (S:Sto):lstO ps S = if ps.length ≤ 16777216 then .ok (.loc S.length) (S ++ [.lst ps]) else .bad:=rfl
@[simp] theorem e_opO (f:Op2) (p q:PV) (S:Sto):opO f p q S = lift (f p q S):=rfl
@[simp] theorem e_unO (f:PV→Sto→Option (PV × Sto)) (p:PV) (S:Sto):unO f p S = lift (f p S):=rfl
@[simp] theorem e_callO (f:OpN) (ps:List PV) (S:Sto):callO f ps S = lift (f ps S):=rfl
@[simp] theorem e_isiO (T:String) (p:PV) (S:Sto):isiO T p S = match isiP T p S with | some b => .ok (.bl b) S | none => .bad:=rfl
@[simp] theorem e_seqMO (p:PV) (S:Sto):seqMO p S = match itrP p S with | some t => .ok t S | none => .bad:=rfl
@[simp] theorem e_rng1O (n:Int) (S:Sto):rng1O (.int n) S = if rngOk n then .ok ⟨rngI 0 n,[]⟩ S else .bad:=rfl
@[simp] theorem e_consO (p:PV) (ps:List PV) (S:Sto):consO p ps S = .ok (p :: ps) S:=rfl
@[simp] theorem e_fldO (C f:Str) (l:Nat) (S1:Sto):fldO C f (.loc l) S1 = match S1[l]? with | some (.ins C' fs) => if C' = C then (match fs.lookup f with | some v => .ok v S1 | none => .bad) else .bad | _ => .bad:=rfl
@[simp] theorem e_setLenO (xs:List PV) (S1:Sto):setLenO (.tup xs) S1 = match keysP xs with | some ks => if ks.length ≤ 4000 then .ok (.int (onceK [] ks).length) S1 else .bad | none => .bad:=rfl
@[simp] theorem e_madeO (l:Nat) (S:Sto):madeO l .non S = .ok (.loc l) S:=rfl
@[simp] theorem e_nxO (τ : En) (p:PV) (S:Sto):nxO τ p S = .nx τ S:=rfl
@[simp] theorem e_rtO (v:PV) (S:Sto):rtO v S = .rt v S:=rfl
@[simp] theorem e_asgO (g:GM) (τ : En) (v:PV) (S:Sto):asgO g τ v S = match g v τ with | some τ1 => .nx τ1 S | none => .bad:=rfl
@[simp] theorem e_setO3 (τ : En) (v o i:PV) (S:Sto):setO3 τ v o i S = match setP o i v S with | some S4 => .nx τ S4 | none => .bad:=rfl
@[simp] theorem e_setfO (C f:Str) (τ : En) (v:PV) (l:Nat) (S2:Sto):setfO C f τ v (.loc l) S2 = match S2[l]? with | some (.ins C' fs) => if C' = C∧fs.length < 1000 then .nx τ (S2.set l (.ins C (putG f v fs))) else .bad | _ => .bad:=rfl
@[simp] theorem e_augO (i:Nat) (τ : En) (f:Op2) (x y:PV) (S:Sto):augO i τ f x y S = match f x y S with | some (z,S2) => .nx (τ.set i (some z)) S2 | none => .bad:=rfl
@[simp] theorem e_bin1 (f:Op2) (b:EM PV) (τ : En) (p:PV) (S:Sto):bin1 f b τ p S = bnd (b τ S) (opO f p):=rfl
@[simp] theorem e_ch1 (f f':Op2) (b c:EM PV) (τ : En) (p:PV) (S:Sto):ch1 f f' b c τ p S = bnd (b τ S) (ch2 f f' c τ p):=rfl
@[simp] theorem e_ch2 (f f':Op2) (c:EM PV) (τ : En) (p q:PV) (S:Sto):ch2 f f' c τ p q S = bnd (lift (f p q S)) (ch3 f' c τ q):=rfl
@[simp] theorem e_ch3 (f':Op2) (c:EM PV) (τ : En) (q:PV) (b:Bool) (S:Sto):ch3 f' c τ q (.bl b) S = if b = true then bnd (c τ S) (opO f' q) else .ok (.bl false) S:=by cases b <;> rfl
@[simp] theorem e_andO (t:EM Bool) (τ : En) (k:Bool) (S:Sto):andO t τ k S = if k = true then t τ S else .ok false S:=rfl
@[simp] theorem e_orO (t:EM Bool) (τ : En) (k:Bool) (S:Sto):orO t τ k S = if k = true then .ok true S else t τ S:=rfl
@[simp] theorem e_andVO (t:EM PV) (τ : En) (k:Bool) (S:Sto):andVO t τ (.bl k) S = if k = true then t τ S else .ok (.bl false) S:=by cases k <;> rfl
@[simp] theorem e_orTO (t:EM PV) (τ : En) (v:PV) (S:Sto):orTO t τ v S = match truP v S with | some true => .ok v S | some false => t τ S | none => .bad:=rfl
@[simp] theorem e_ifO {γ : Type} (s t:EM γ) (τ : En) (k:Bool) (S:Sto):ifO s t τ k S = if k = true then s τ S else t τ S:=rfl
@[simp] theorem e_aC1 (ms:EM (List PV)) (τ : En) (p:PV) (S:Sto):aC1 ms τ p S = bnd (ms τ S) (consO p):=rfl
@[simp] theorem e_sl1 (lo hi:EM (Option Int)) (τ : En) (p:PV) (S:Sto):sl1 lo hi τ p S = bnd (lo τ S) (sl2 hi τ p):=rfl
@[simp] theorem e_sl2 (hi:EM (Option Int)) (τ : En) (p:PV) (l:Option Int) (S:Sto):sl2 hi τ p l S = bnd (hi τ S) (sl3 p l):=rfl
@[simp] theorem e_sl3 (p:PV) (l h:Option Int) (S:Sto):sl3 p l h S = lift (slP p l h S):=rfl
@[simp] theorem e_mt1 (T:String) (f:OpM) (ms:EM (List PV)) (τ : En) (p:PV) (S:Sto):mt1 T f ms τ p S = if isTy T p S = true then bnd (ms τ S) (mt2 f p) else .bad:=rfl
@[simp] theorem e_mt2 (f:OpM) (p:PV) (ps:List PV) (S:Sto):mt2 f p ps S = lift (f p ps S):=rfl
@[simp] theorem e_comp1 (g:GM) (tt:EM Bool) (el:EM PV) (vs:List Nat) (τ : En) (t:Wk) (S:Sto):comp1 g tt el vs τ t S = newL (accL t g (stepE tt el) [] t.items (wipeE τ vs) S):=rfl
@[simp] theorem e_comp2a (g:GM) (tt:EM Bool) (m1:EM Wk) (g1:GM) (tt1:EM Bool) (el:EM PV) (vs vs1:List Nat) (τ : En) (t:Wk) (S:Sto):comp2a g tt m1 g1 tt1 el vs vs1 τ t S = newL (accL t g (stepI tt m1 g1 tt1 el vs1) [] t.items (wipeE τ vs) S):=rfl
@[simp] theorem e_m2a (f:PV→PV→PV→Sto→Option (PV × Sto)) (ma mb:EM PV) (τ : En) (d:PV) (S:Sto):m2a f ma mb τ d S = if isDct d S = true then bnd (ma τ S) (m2b f mb τ d) else .bad:=rfl
@[simp] theorem e_m2b (f:PV→PV→PV→Sto→Option (PV × Sto)) (mb:EM PV) (τ : En) (d k:PV) (S:Sto):m2b f mb τ d k S = bnd (mb τ S) (m2c f d k):=rfl
@[simp] theorem e_m2c (f:PV→PV→PV→Sto→Option (PV × Sto)) (d k x:PV) (S:Sto):m2c f d k x S = lift (f d k x S):=rfl
@[simp] theorem e_meth1 (C m:Str) (F:FM) (g:List PV→List PV) (ms:EM (List PV)) (τ : En) (p:PV) (S:Sto):meth1 C m F g ms τ p S = if isIns C m p S = true then bnd (ms τ S) (meth2 F g p) else .bad:=rfl
@[simp] theorem e_meth2 (F:FM) (g:List PV→List PV) (p:PV) (ps:List PV) (S:Sto):meth2 F g p ps S = F (p :: g ps) S:=rfl
@[simp] theorem e_make1 (C:Str) (F:FM) (g:List PV→List PV) (ps:List PV) (S:Sto):make1 C F g ps S = bnd (F (.loc S.length :: g ps) (S ++ [.ins C []])) (madeO S.length):=rfl
@[simp] theorem e_ifK (s t:SM) (τ : En) (k:Bool) (S:Sto):ifK s t τ k S = if k = true then s τ S else t τ S:=rfl
@[simp] theorem e_setO1 (mo mi:EM PV) (τ : En) (v:PV) (S:Sto):setO1 mo mi τ v S = bndS (mo τ S) τ (setO2 mi τ v):=rfl
@[simp] theorem e_setO2 (mi:EM PV) (τ : En) (v o:PV) (S:Sto):setO2 mi τ v o S = bndS (mi τ S) τ (setO3 τ v o):=rfl
@[simp] theorem e_setf1 (C f:Str) (mo:EM PV) (τ : En) (v:PV) (S:Sto):setf1 C f mo τ v S = bndS (mo τ S) τ (setfO C f τ v):=rfl
@[simp] theorem e_for1 (g:GM) (b:SM) (τ : En) (t:Wk) (S:Sto):for1 g b τ t S = forL t g b t.items τ S:=rfl
@[simp] theorem e_step1 (el:EM PV) (acc:List PV) (τ : En) (k:Bool) (S:Sto):step1 el acc τ k S = if k = true then bnd (noEr (el τ S)) (step2 acc) else .ok acc S:=rfl
@[simp] theorem e_step2 (acc:List PV) (y:PV) (S:Sto):step2 acc y S = if acc.length < 16777216 then .ok (acc ++ [y]) S else .bad:=rfl
@[simp] theorem e_stepI1 (m1:EM Wk) (g1:GM) (tt1:EM Bool) (el:EM PV) (vs1:List Nat) (acc:List PV) (τ : En) (k:Bool) (S:Sto):stepI1 m1 g1 tt1 el vs1 acc τ k S = if k = true then bnd (noEr (m1 τ S)) (stepI2 g1 tt1 el vs1 acc τ) else .ok acc S:=rfl
@[simp] theorem e_stepI2 (g1:GM) (tt1:EM Bool) (el:EM PV) (vs1:List Nat) (acc:List PV) (τ : En) (t1:Wk) (S:Sto):stepI2 g1 tt1 el vs1 acc τ t1 S = accL t1 g1 (stepE tt1 el) acc t1.items (wipeE τ vs1) S:=rfl
@[simp] theorem e_on1 (f:PV→Sto→Option (PV × Sto)) (p:PV) (S:Sto):on1 f [p] S = f p S:=rfl
@[simp] theorem e_on2 (f:PV→PV→Sto→Option (PV × Sto)) (p q:PV) (S:Sto):on2 f [p,q] S = f p q S:=rfl
variable (τ : En) (S:Sto)
@[simp] theorem e_vV (i:Nat):vV i τ S = match τ[i]? with | some (some v) => .ok v S | _ => .bad:=rfl
@[simp] theorem e_binM (f:Op2) (a b:EM PV):binM f a b τ S = bnd (a τ S) (bin1 f b τ):=rfl
@[simp] theorem e_blM (m:EM PV):blM m τ S = bnd (m τ S) blO:=rfl
@[simp] theorem e_chainM (f f':Op2) (a b c:EM PV):chainM f f' a b c τ S = bnd (a τ S) (ch1 f f' b c τ):=rfl
@[simp] theorem e_isNM (m:EM PV):isNM m τ S = bnd (m τ S) isNO:=rfl
@[simp] theorem e_notNM (m:EM PV):notNM m τ S = bnd (m τ S) notNO:=rfl
@[simp] theorem e_truM (m:EM PV):truM m τ S = bnd (m τ S) truO:=rfl
@[simp] theorem e_andM (s t:EM Bool):andM s t τ S = bnd (s τ S) (andO t τ):=rfl
@[simp] theorem e_orM (s t:EM Bool):orM s t τ S = bnd (s τ S) (orO t τ):=rfl
@[simp] theorem e_notM (s:EM Bool):notM s τ S = bnd (s τ S) notO:=rfl
@[simp] theorem e_andV (s t:EM PV):andV s t τ S = bnd (s τ S) (andVO t τ):=rfl
@[simp] theorem e_notV (s:EM PV):notV s τ S = bnd (s τ S) notVO:=rfl
@[simp] theorem e_orTM (s t:EM PV):orTM s t τ S = bnd (s τ S) (orTO t τ):=rfl
@[simp] theorem e_ifM (c:EM Bool) (s t:EM PV):ifM c s t τ S = bnd (c τ S) (ifO s t τ):=rfl
@[simp] theorem e_aN:aN τ S = .ok [] S:=rfl
@[simp] theorem e_aC (m:EM PV) (ms:EM (List PV)):aC m ms τ S = bnd (m τ S) (aC1 ms τ):=rfl
@[simp] theorem e_tupM (ms:EM (List PV)):tupM ms τ S = bnd (ms τ S) tupO:=rfl
@[simp] theorem e_lstM (ms:EM (List PV)):lstM ms τ S = bnd (ms τ S) lstO:=rfl
@[simp] theorem e_oN:oN τ S = .ok none S:=rfl
@[simp] theorem e_oS (m:EM PV):oS m τ S = bnd (m τ S) oSO:=rfl
@[simp] theorem e_slM (m:EM PV) (lo hi:EM (Option Int)):slM m lo hi τ S = bnd (m τ S) (sl1 lo hi τ):=rfl
@[simp] theorem e_unM (f:PV→Sto→Option (PV × Sto)) (m:EM PV):unM f m τ S = bnd (m τ S) (unO f):=rfl
@[simp] theorem e_callM (f:OpN) (ms:EM (List PV)):callM f ms τ S = bnd (ms τ S) (callO f):=rfl
@[simp] theorem e_isiM (T:String) (m:EM PV):isiM T m τ S = bnd (m τ S) (isiO T):=rfl
@[simp] theorem e_mtM (T:String) (f:OpM) (m:EM PV) (ms:EM (List PV)):mtM T f m ms τ S = bnd (m τ S) (mt1 T f ms τ):=rfl
@[simp] theorem e_callD (F:FM) (ms:EM (List PV)):callD F ms τ S = bnd (ms τ S) F:=rfl
@[simp] theorem e_seqM (m:EM PV):seqM m τ S = bnd (m τ S) seqMO:=rfl
@[simp] theorem e_rng1M (m:EM PV):rng1M m τ S = bnd (m τ S) rng1O:=rfl
@[simp] theorem e_yesM:yesM τ S = .ok true S:=rfl
@[simp] theorem e_compM (m:EM Wk) (g:GM) (tt:EM Bool) (el:EM PV) (vs:List Nat):compM m g tt el vs τ S = bnd (m τ S) (comp1 g tt el vs τ):=rfl
@[simp] theorem e_comp2M (m:EM Wk) (g:GM) (tt:EM Bool) (m1:EM Wk) (g1:GM) (tt1:EM Bool) (el:EM PV) (vs vs1:List Nat):comp2M m g tt m1 g1 tt1 el vs vs1 τ S = bnd (m τ S) (comp2a g tt m1 g1 tt1 el vs vs1 τ):=rfl
@[simp] theorem zq6:dictM τ S = .ok (.loc S.length) (S ++ [.dct []]):=rfl
@[simp] theorem e_m2M (f:PV→PV→PV→Sto→Option (PV × Sto)) (mo ma mb:EM PV):m2M f mo ma mb τ S = bnd (mo τ S) (m2a f ma mb τ):=rfl
@[simp] theorem e_fldM (C f:Str) (m:EM PV):fldM C f m τ S = bnd (m τ S) (fldO C f):=rfl
@[simp] theorem e_methM (C m:Str) (F:FM) (mo:EM PV) (ms:EM (List PV)):methM C m F mo ms τ S = bnd (mo τ S) (meth1 C m F id ms τ):=rfl
@[simp] theorem e_makeM (C:Str) (F:FM) (g:List PV→List PV) (ms:EM (List PV)):makeM C F g ms τ S = bnd (ms τ S) (make1 C F g):=rfl
@[simp] theorem e_lenSetM (m:EM PV):lenSetM m τ S = bnd (m τ S) setLenO:=rfl
@[simp] theorem e_nopS:nopS τ S = .nx τ S:=rfl
@[simp] theorem e_seqS (s t:SM):seqS s t τ S = seqO (s τ S) t:=rfl
@[simp] theorem e_exprS (m:EM PV):exprS m τ S = bndS (m τ S) τ (nxO τ):=rfl
@[simp] theorem e_retS (m:EM PV):retS m τ S = bndS (m τ S) τ rtO:=rfl
@[simp] theorem e_ifS (c:EM Bool) (s t:SM):ifS c s t τ S = bndS (c τ S) τ (ifK s t τ):=rfl
@[simp] theorem e_gN (i:Nat) (p:PV):gN i p τ = some (τ.set i (some p)):=rfl
@[simp] theorem e_gsN:gsN [] τ = some τ:=rfl
@[simp] theorem e_gsC (g:GM) (h:GMs) (p:PV) (r:List PV):gsC g h (p :: r) τ = (g p τ).bind (h r):=rfl
@[simp] theorem e_gT (n:Nat) (g:GMs) (xs:List PV):gT n g (.tup xs) τ = if xs.length = n then g xs τ else none:=rfl
@[simp] theorem e_asgS (m:EM PV) (g:GM):asgS m g τ S = bndS (m τ S) τ (asgO g τ):=rfl
@[simp] theorem e_setS (m mo mi:EM PV):setS m mo mi τ S = bndS (m τ S) τ (setO1 mo mi τ):=rfl
@[simp] theorem e_augS (i:Nat) (f:Op2) (m:EM PV):augS i f m τ S = match τ[i]? with | some (some x) => bndS (m τ S) τ (augO i τ f x) | _ => .bad:=rfl
@[simp] theorem e_setfS (C f:Str) (m mo:EM PV):setfS C f m mo τ S = bndS (m τ S) τ (setf1 C f mo τ):=rfl
@[simp] theorem e_forS (m:EM Wk) (g:GM) (b:SM):forS m g b τ S = bndS (m τ S) τ (for1 g b τ):=rfl
end
section
variable {α : Type} (S:Sto)
@[simp high] theorem wp_ite_bad {c:Prop} [Decidable c] {a:Out α} {P : α→Sto→Prop} {R:Str→PV→Sto→Prop}:wp (if c then a else .bad) P R↔(c∧wp a P R):=by
 split <;> simp_all
@[simp high] theorem wpS_ite_bad {c:Prop} [Decidable c] {a:OS} {N:En→Sto→Prop} {T:PV→Sto→Prop} {R:Str→PV→En→Sto→Prop}:wpS (if c then a else .bad) N T R↔(c∧wpS a N T R):=by
 split <;> simp_all
@[simp] theorem lift_ite {c:Prop} [Decidable c] {a b:Option (α × Sto)}:lift (if c then a else b) = if c then lift a else lift b:=by split <;> rfl
@[simp] theorem bnd_ite {β : Type} {c:Prop} [Decidable c] {a b:Out α} {f : α→Sto→Out β}:bnd (if c then a else b) f = if c then bnd a f else bnd b f:=by split <;> rfl
@[simp] theorem bndS_ite {c:Prop} [Decidable c] {a b:Out α} {τ : En} {f : α→Sto→OS}:bndS (if c then a else b) τ f = if c then bndS a τ f else bndS b τ f:=by split <;> rfl
@[simp] theorem seqO_ite {c:Prop} [Decidable c] {a b:OS} {k:SM}:seqO (if c then a else b) k = if c then seqO a k else seqO b k:=by split <;> rfl
@[simp] theorem addP_int (i j:Int):addP (.int i) (.int j) S = some (.int (i + j),S):=rfl
@[simp] theorem addP_str (a b:Str):addP (.str a) (.str b) S = if a.length + b.length ≤ 16777216 then some (.str (a ++ b),S) else none:=rfl
@[simp] theorem addP_tup (a b:List PV):addP (.tup a) (.tup b) S = if a.length + b.length ≤ 16777216 then some (.tup (a ++ b),S) else none:=rfl
@[simp] theorem zq1 (l k:Nat):addP (.loc l) (.loc k) S = match S[l]?,S[k]? with
  | some (.lst a),some (.lst b) => if a.length + b.length ≤ 16777216 then some (.loc S.length,S ++ [.lst (a ++ b)]) else none
  | _,_ => none:=rfl
@[simp] theorem subP_int (i j:Int):subP (.int i) (.int j) S = some (.int (i - j),S):=rfl
@[simp] theorem mulP_int (i j:Int):mulP (.int i) (.int j) S = if (-(2 ^ 64) < i∧i < 2 ^ 64) ∨ (-(2 ^ 64) < j∧j < 2 ^ 64) then some (.int (i * j),S) else none:=rfl
@[simp] theorem mulP_str (x:Str) (n:Int):mulP (.str x) (.int n) S = if 0 ≤ n∧n ≤ 1000000∧x.length ≤ 16777216∧x.length * n.toNat ≤ 16777216 then some (.str (Txt.mul x n),S) else none:=rfl
@[simp] theorem fdivP_int (i j:Int):fdivP (.int i) (.int j) S = if 0 < j∧j.natAbs < 1267650600228229401496703205376 then some (.int (i / j),S) else none:=by
 show (if 0 < j∧j.natAbs < 1267650600228229401496703205376 then some (PV.int (i / j)) else none).map (fun v => (v,S)) = _
 split <;> rfl
@[simp] theorem modP_int (i j:Int):modP (.int i) (.int j) S = if 0 < j then some (.int (i % j),S) else none:=by
 show (if 0 < j then some (PV.int (i % j)) else none).map (fun v => (v,S)) = _
 split <;> rfl
@[simp] theorem powP_int (i j:Int):powP (.int i) (.int j) S = if 0 ≤ j∧j ≤ 1000000∧i.natAbs < 2 ^ 64 then some (.int (i ^ j.toNat),S) else none:=by
 show (if 0 ≤ j∧j ≤ 1000000∧i.natAbs < 2 ^ 64 then some (PV.int (i ^ j.toNat)) else none).map (fun v => (v,S)) = _
 split <;> rfl
@[simp] theorem ltP_int (i j:Int):ltP (.int i) (.int j) S = some (.bl (decide (i < j)),S):=(rfl)
@[simp] theorem leP_int (i j:Int):leP (.int i) (.int j) S = some (.bl (decide (i ≤ j)),S):=(rfl)
@[simp] theorem gtP_int (i j:Int):gtP (.int i) (.int j) S = some (.bl (decide (j < i)),S):=(rfl)
@[simp] theorem geP_int (i j:Int):geP (.int i) (.int j) S = some (.bl (decide (j ≤ i)),S):=(rfl)
@[simp] theorem eqP_ap (p q:PV):eqP p q S = (eqB p q S).map fun b => (.bl b,S):=rfl
@[simp] theorem neP_ap (p q:PV):neP p q S = (eqB p q S).map fun b => (.bl (!b),S):=rfl
@[simp] theorem inP_ap (p q:PV):inP p q S = (inB p q S).map fun b => (.bl b,S):=rfl
@[simp] theorem notInP_ap (p q:PV):notInP p q S = (inB p q S).map fun b => (.bl (!b),S):=rfl
@[simp] theorem eqB_int (i j:Int):eqB (.int i) (.int j) S = some (decide (i = j)):=(rfl)
@[simp] theorem eqB_str (i j:Str):eqB (.str i) (.str j) S = some (decide (i = j)):=(rfl)
@[simp] theorem eqB_bl (i j:Bool):eqB (.bl i) (.bl j) S = some (decide (i = j)):=(rfl)
@[simp] theorem getP_tup (xs:List PV) (i:Int):getP (.tup xs) (.int i) S = (atI xs i).map fun v => (v,S):=rfl
@[simp] theorem getP_fls (xs:List PV) (i:Int):getP (.fls xs) (.int i) S = (atI xs i).map fun v => (v,S):=rfl
@[simp] theorem getP_str (x:Str) (i:Int):getP (.str x) (.int i) S = if x.length ≤ 16777216 then (atI x.cps.toList i).map fun c => (.str ⟨#[c]⟩,S) else none:=rfl
@[simp] theorem getP_loc (l:Nat) (i:Int):getP (.loc l) (.int i) S = match S[l]? with | some (.lst xs) => (atI xs i).map fun v => (v,S) | _ => none:=by
 unfold getP; cases h:S[l]? with
 | none => simp [h]
 | some o => cases o <;> simp [h]
@[simp] theorem atI_0 {β : Type} (x : β) (xs:List β):atI (x :: xs) 0 = some x:=by
 have e:ixN (x :: xs).length 0 = some 0:=by
  unfold ixN; rw [if_pos (by omega),if_pos (by simp only [List.length_cons]; omega)]; rfl
 unfold atI; rw [e]; rfl
@[simp] theorem atI_1 {β : Type} (x y : β) (xs:List β):atI (x :: y :: xs) 1 = some y:=by
 have e:ixN (x :: y :: xs).length 1 = some 1:=by
  unfold ixN; rw [if_pos (by omega),if_pos (by simp only [List.length_cons]; omega)]; rfl
 unfold atI; rw [e]; rfl
@[simp] theorem atI_2 {β : Type} (x y z : β) (xs:List β):atI (x :: y :: z :: xs) 2 = some z:=by
 have e:ixN (x :: y :: z :: xs).length 2 = some 2:=by
  unfold ixN; rw [if_pos (by omega),if_pos (by simp only [List.length_cons]; omega)]; rfl
 unfold atI; rw [e]; rfl
@[simp] theorem atI_3 {β : Type} (x y z w : β) (xs:List β):atI (x :: y :: z :: w :: xs) 3 = some w:=by
 have e:ixN (x :: y :: z :: w :: xs).length 3 = some 3:=by
  unfold ixN; rw [if_pos (by omega),if_pos (by simp only [List.length_cons]; omega)]; rfl
 unfold atI; rw [e]; rfl
theorem atI_nat {β : Type} {xs:List β} {i:Int} (h0:0 ≤ i) (h:i < xs.length):∃ x,atI xs i = some x∧xs[i.toNat]? = some x∧x ∈ xs:=by
 have hlt:i.toNat < xs.length:=by omega
 refine ⟨xs[i.toNat],?_,List.getElem?_eq_getElem hlt,List.getElem_mem hlt⟩
 unfold atI ixN
 simp only [if_pos h0,if_pos h,Option.bind_some]
 exact List.getElem?_eq_getElem hlt
@[simp] theorem setP_loc (l:Nat) (k:Int) (v:PV):setP (.loc l) (.int k) v S = match S[l]? with | some (.lst xs) => (ixN xs.length k).map fun j => S.set l (.lst (xs.set j v)) | _ => none:=rfl
@[simp] theorem isTy_loc (T:String) (l:Nat):isTy T (.loc l) S = match S[l]? with | some (.lst _) => T == "list" | some (.dct _) => T == "dict" | _ => false:=rfl
@[simp] theorem isTy_str (T:String) (x:Str):isTy T (.str x) S = (T == "str"):=rfl
@[simp] theorem appendP_loc (l:Nat) (q:PV):appendP (.loc l) [q] S = match S[l]? with | some (.lst xs) => if xs.length < 16777216 then some (.non,S.set l (.lst (xs ++ [q]))) else none | _ => none:=rfl
@[simp] theorem extendP_loc (l m:Nat):extendP (.loc l) [.loc m] S = match S[l]?,S[m]? with
  | some (.lst xs),some (.lst ys) => if xs.length + ys.length ≤ 16777216 then some (.non,S.set l (.lst (xs ++ ys))) else none
  | _,_ => none:=rfl
@[simp] theorem insertP_loc (l:Nat) (i:Int) (q:PV):insertP (.loc l) [.int i,q] S = match S[l]? with
  | some (.lst xs) => if xs.length < 16777216∧0 ≤ i∧i < 4611686018427387904 then some (.non,S.set l (.lst (xs.take i.toNat ++ [q] ++ xs.drop i.toNat))) else none
  | _ => none:=rfl
@[simp] theorem popP_loc (l:Nat) (ps:List PV):popP (.loc l) ps S = match S[l]? with
  | some (.lst xs) => match ps with
   | [] => (xs[xs.length - 1]?).map fun y => (y,S.set l (.lst xs.dropLast))
   | [.int i] => if -4611686018427387904 ≤ i∧i < 4611686018427387904 then (ixN xs.length i).bind fun j => (xs[j]?).map fun y => (y,S.set l (.lst (xs.eraseIdx j))) else none
   | _ => none
  | _ => none:=rfl
@[simp] theorem lenP_tup (xs:List PV):lenP (.tup xs) S = some (.int xs.length,S):=rfl
@[simp] theorem lenP_fls (xs:List PV):lenP (.fls xs) S = some (.int xs.length,S):=rfl
@[simp] theorem lenP_str (x:Str):lenP (.str x) S = if x.length ≤ 16777216 then some (.int x.length,S) else none:=rfl
@[simp] theorem lenP_loc (l:Nat):lenP (.loc l) S = match S[l]? with | some (.lst xs) => some (.int xs.length,S) | some (.dct kvs) => some (.int kvs.length,S) | _ => none:=rfl
@[simp] theorem itemsP_tup (xs:List PV):itemsP (.tup xs) S = some xs:=rfl
@[simp] theorem itemsP_fls (xs:List PV):itemsP (.fls xs) S = some xs:=rfl
@[simp] theorem itemsP_loc (l:Nat):itemsP (.loc l) S = match S[l]? with | some (.lst xs) => some xs | _ => none:=rfl
@[simp] theorem zq3 (p:PV):listP p S = (itemsP p S).map fun xs => (.loc S.length,S ++ [.lst xs]):=rfl
@[simp] theorem tupleP_ap (p:PV):tupleP p S = (itemsP p S).map fun xs => (.tup xs,S):=rfl
@[simp] theorem allP_loc (l:Nat):allP (.loc l) S = match S[l]? with | some (.lst xs) => (boolsP xs).map fun bs => (.bl (bs.all id),S) | _ => none:=rfl
@[simp] theorem intP_int (i:Int):intP (.int i) S = some (.int i,S):=rfl
@[simp] theorem maxP_int (i j:Int):maxP (.int i) (.int j) S = some (.int (if j > i then j else i),S):=rfl
@[simp] theorem minP_int (i j:Int):minP (.int i) (.int j) S = some (.int (if j < i then j else i),S):=rfl
@[simp] theorem negP_int (i:Int):negP (.int i) S = some (.int (-i),S):=rfl
@[simp] theorem zq5 (l:Nat):revP (.loc l) S = match S[l]? with | some (.lst xs) => some (.loc S.length,S ++ [.lst xs.reverse]) | _ => none:=rfl
@[simp] theorem slP_tup (xs:List PV) (lo hi:Option Int):slP (.tup xs) lo hi S = some (.tup (cutP xs lo hi),S):=rfl
@[simp] theorem slP_fls (xs:List PV) (lo hi:Option Int):slP (.fls xs) lo hi S = some (.loc S.length,S ++ [.lst (cutP xs lo hi)]):=rfl
@[simp] theorem slP_str (x:Str) (lo hi:Option Int):slP (.str x) lo hi S = if x.length ≤ 16777216 then some (.str (cutS x lo hi),S) else none:=rfl
@[simp] theorem zq4 (l:Nat) (lo hi:Option Int):slP (.loc l) lo hi S = match S[l]? with | some (.lst xs) => some (.loc S.length,S ++ [.lst (cutP xs lo hi)]) | _ => none:=rfl
@[simp] theorem itrP_tup (xs:List PV):itrP (.tup xs) S = some ⟨xs,[]⟩:=rfl
@[simp] theorem itrP_fls (xs:List PV):itrP (.fls xs) S = some ⟨xs,[]⟩:=rfl
@[simp] theorem itrP_str (x:Str):itrP (.str x) S = some ⟨x.cps.toList.map fun c => .str ⟨#[c]⟩,[]⟩:=rfl
@[simp] theorem itrP_loc (l:Nat):itrP (.loc l) S = match S[l]? with | some (.lst xs) => some ⟨xs,[(l,.lst xs)]⟩ | _ => none:=rfl
@[simp] theorem wk_ok0 (xs:List PV):(Wk.ok ⟨xs,[]⟩ S) = True:=by simp [Wk.ok]
@[simp] theorem wk_ok1 (xs:List PV) (o:Ob) (l:Nat):(Wk.ok ⟨xs,[(l,o)]⟩ S) = (S[l]? = some o):=by simp [Wk.ok]
@[simp] theorem truP_bl (b:Bool):truP (.bl b) S = some b:=rfl
@[simp] theorem truP_int (i:Int):truP (.int i) S = some (i != 0):=rfl
@[simp] theorem truP_non:truP .non S = some false:=rfl
@[simp] theorem isNon_non:isNon .non = true:=rfl
@[simp] theorem isNon_bl (b:Bool):isNon (.bl b) = false:=rfl
@[simp] theorem isNon_int (i:Int):isNon (.int i) = false:=rfl
@[simp] theorem isNon_str (x:Str):isNon (.str x) = false:=rfl
@[simp] theorem isNon_tup (xs:List PV):isNon (.tup xs) = false:=rfl
@[simp] theorem isNon_fls (xs:List PV):isNon (.fls xs) = false:=rfl
@[simp] theorem isNon_loc (l:Nat):isNon (.loc l) = false:=rfl
@[simp] theorem isIns_loc (C m:Str) (l:Nat):isIns C m (.loc l) S = match S[l]? with | some (.ins C' fs) => decide (C' = C) && (fs.lookup m).isNone | _ => false:=rfl
@[simp] theorem isDct_loc (l:Nat):isDct (.loc l) S = match S[l]? with | some (.dct _) => true | _ => false:=rfl
@[simp] theorem keyP_int (i:Int):keyP (.int i) = some (.inl i):=rfl
@[simp] theorem keyP_str (x:Str):keyP (.str x) = some (.inr x):=rfl
@[simp] theorem setdefP_loc (l:Nat) (k x:PV):setdefP (.loc l) k x S = match S[l]?,keyP k with
  | some (.dct kvs),some kk => if kvs.length < 16777216 then (match valP kvs kk with | some v => some (v,S) | none => some (x,S.set l (.dct (putP kvs kk x)))) else none
  | _,_ => none:=rfl
@[simp] theorem get2P_loc (l:Nat) (k x:PV):get2P (.loc l) k x S = match S[l]?,keyP k with | some (.dct kvs),some kk => some ((valP kvs kk).getD x,S) | _,_ => none:=rfl
@[simp] theorem dgetP_loc (l:Nat) (q:PV):dgetP (.loc l) q S = match S[l]?,keyP q with | some (.dct kvs),some k => (valP kvs k).map fun v => (v,S) | _,_ => none:=rfl
@[simp] theorem joinP_str (a:Str) (q:PV):joinP (.str a) [q] S = ((itemsP q S).bind strsP).bind fun ys => if (ys.map (·.length)).sum + ys.length * a.length ≤ 16777216 then some (.str (Txt.join a ys),S) else none:=rfl
@[simp] theorem ixN_1_0:ixN 1 0 = some 0:=by rfl
@[simp] theorem ixN_2_0:ixN 2 0 = some 0:=by rfl
@[simp] theorem ixN_2_1:ixN 2 1 = some 1:=by rfl
@[simp] theorem ixN_3_0:ixN 3 0 = some 0:=by rfl
@[simp] theorem ixN_3_1:ixN 3 1 = some 1:=by rfl
@[simp] theorem ixN_3_2:ixN 3 2 = some 2:=by rfl
@[simp] theorem ixN_4_0:ixN 4 0 = some 0:=by rfl
@[simp] theorem ixN_4_1:ixN 4 1 = some 1:=by rfl
@[simp] theorem ixN_4_2:ixN 4 2 = some 2:=by rfl
@[simp] theorem ixN_4_3:ixN 4 3 = some 3:=by rfl
@[simp] theorem ixN_5_0:ixN 5 0 = some 0:=by rfl
@[simp] theorem ixN_5_1:ixN 5 1 = some 1:=by rfl
@[simp] theorem ixN_5_2:ixN 5 2 = some 2:=by rfl
@[simp] theorem ixN_5_3:ixN 5 3 = some 3:=by rfl
@[simp] theorem ixN_5_4:ixN 5 4 = some 4:=by rfl
@[simp] theorem isi_bool_bl (b:Bool):isiP "bool" (.bl b) S = some true:=by rfl
@[simp] theorem isi_bool_int (b:Int):isiP "bool" (.int b) S = some false:=by rfl
@[simp] theorem isi_bool_str (b:Str):isiP "bool" (.str b) S = some false:=by rfl
@[simp] theorem isi_bool_tup (b:List PV):isiP "bool" (.tup b) S = some false:=by rfl
@[simp] theorem isi_int_bl (b:Bool):isiP "int" (.bl b) S = some true:=by rfl
@[simp] theorem isi_int_int (b:Int):isiP "int" (.int b) S = some true:=by rfl
@[simp] theorem isi_int_str (b:Str):isiP "int" (.str b) S = some false:=by rfl
@[simp] theorem isi_int_tup (b:List PV):isiP "int" (.tup b) S = some false:=by rfl
@[simp] theorem isi_str_bl (b:Bool):isiP "str" (.bl b) S = some false:=by rfl
@[simp] theorem isi_str_int (b:Int):isiP "str" (.int b) S = some false:=by rfl
@[simp] theorem isi_str_str (b:Str):isiP "str" (.str b) S = some true:=by rfl
@[simp] theorem isi_str_tup (b:List PV):isiP "str" (.tup b) S = some false:=by rfl
@[simp] theorem isi_list_bl (b:Bool):isiP "list" (.bl b) S = some false:=by rfl
@[simp] theorem isi_list_int (b:Int):isiP "list" (.int b) S = some false:=by rfl
@[simp] theorem isi_list_str (b:Str):isiP "list" (.str b) S = some false:=by rfl
@[simp] theorem isi_list_tup (b:List PV):isiP "list" (.tup b) S = some false:=by rfl
@[simp] theorem isi_tuple_bl (b:Bool):isiP "tuple" (.bl b) S = some false:=by rfl
@[simp] theorem isi_tuple_int (b:Int):isiP "tuple" (.int b) S = some false:=by rfl
@[simp] theorem isi_tuple_str (b:Str):isiP "tuple" (.str b) S = some false:=by rfl
@[simp] theorem isi_tuple_tup (b:List PV):isiP "tuple" (.tup b) S = some true:=by rfl
theorem isi_loc_lst {T:String} {l:Nat} {xs:List PV} (h:S[l]? = some (.lst xs)):isiP T (.loc l) S = kitB "list" T:=by
 simp [isiP,tyNm,h]
@[simp] theorem kit_lb:kitB "list" "bool" = some false:=by rfl
@[simp] theorem kit_li:kitB "list" "int" = some false:=by rfl
@[simp] theorem kit_ls:kitB "list" "str" = some false:=by rfl
@[simp] theorem kit_ll:kitB "list" "list" = some true:=by rfl
@[simp] theorem kit_lt:kitB "list" "tuple" = some false:=by rfl
end
section
variable {N:En→Sto→Prop} {T:PV→Sto→Prop} {R:Str→PV→En→Sto→Prop}
theorem forL_inv {t:Wk} {g:GM} {b:SM} (Inv:List PV→List PV→En→Sto→Prop) {items:List PV} {τ : En} {S:Sto} (h0:Inv [] items τ S)
  (hs:∀ dn p rs τ S,items = dn ++ p :: rs→Inv dn (p :: rs) τ S→t.ok S∧∃ τ1,g p τ = some τ1∧wpS (b τ1 S) (Inv (dn ++ [p]) rs) T R)
  (he:∀ τ S,Inv items [] τ S→t.ok S∧N τ S):wpS (forL t g b items τ S) N T R:=by
 have key:∀ (rs dn:List PV) (τ : En) (S:Sto),items = dn ++ rs→Inv dn rs τ S→wpS (forL t g b rs τ S) N T R:=by
  intro rs
  induction rs with
  | nil =>
   intro dn τ S e h
   have e':items = dn:=by simpa using e
   subst e'
   obtain ⟨h1,h2⟩:=he τ S h
   simp only [forL,if_pos h1]
   exact h2
  | cons p rs ih =>
   intro dn τ S e h
   obtain ⟨h1,τ1,h2,h3⟩:=hs dn p rs τ S e h
   simp only [forL,if_pos h1,h2]
   rw [wpS_seqO]
   exact wpS_mono h3 (fun τ' S' hh => ih (dn ++ [p]) τ' S' (by rw [e]; simp) hh) (fun _ _ k => k) fun _ _ _ _ k => k
 exact key items [] τ S rfl h0
theorem accL_inv {P:List PV→Sto→Prop} {R:Str→PV→Sto→Prop} {t:Wk} {g:GM} {st:List PV→En→Sto→Out (List PV)} (Inv:List PV→List PV→List PV→Sto→Prop) {items:List PV} {acc:List PV} {τ : En} {S:Sto} (h0:Inv [] items acc S)
  (hs:∀ dn p rs acc S,items = dn ++ p :: rs→Inv dn (p :: rs) acc S→t.ok S∧∃ τ1,g p τ = some τ1∧wp (st acc τ1 S) (Inv (dn ++ [p]) rs) R)
  (he:∀ acc S,Inv items [] acc S→t.ok S∧P acc S):wp (accL t g st acc items τ S) P R:=by
 have key:∀ (rs dn acc:List PV) (S:Sto),items = dn ++ rs→Inv dn rs acc S→wp (accL t g st acc rs τ S) P R:=by
  intro rs
  induction rs with
  | nil =>
   intro dn acc S e h
   have e':items = dn:=by simpa using e
   subst e'
   obtain ⟨h1,h2⟩:=he acc S h
   rw [accL_nil,if_pos h1]
   exact h2
  | cons p rs ih =>
   intro dn acc S e h
   obtain ⟨h1,τ1,h2,h3⟩:=hs dn p rs acc S e h
   simp only [accL,if_pos h1,h2]
   rw [wp_bnd]
   exact wp_mono h3 (fun a S' hh => ih (dn ++ [p]) a S' (by rw [e]; simp) hh) fun _ _ _ k => k
 exact key items [] acc S rfl h0
theorem stepE_wp {tt:EM Bool} {el:EM PV} {acc:List PV} {τ : En} {S:Sto} {P:List PV→Sto→Prop} {R:Str→PV→Sto→Prop} :
  wp (stepE tt el acc τ S) P R = wp (tt τ S) (wK (step1 el acc τ) P R) noK:=by
 show wp (bnd (noEr (tt τ S)) (step1 el acc τ)) P R = _
 rw [wp_bnd,e_noEr]
 rfl
theorem stepI_wp {tt:EM Bool} {m1:EM Wk} {g1:GM} {tt1:EM Bool} {el:EM PV} {vs1:List Nat} {acc:List PV} {τ : En} {S:Sto} {P:List PV→Sto→Prop} {R:Str→PV→Sto→Prop} :
  wp (stepI tt m1 g1 tt1 el vs1 acc τ S) P R = wp (tt τ S) (wK (stepI1 m1 g1 tt1 el vs1 acc τ) P R) noK:=by
 show wp (bnd (noEr (tt τ S)) (stepI1 m1 g1 tt1 el vs1 acc τ)) P R = _
 rw [wp_bnd,e_noEr]
 rfl
theorem whileN_mono {c:EM Bool} {b:SM}:∀ (n m:Nat) (τ : En) (S:Sto),n ≤ m→whileN c b n τ S ≠ .bad→whileN c b m τ S = whileN c b n τ S:=by
 intro n
 induction n with
 | zero => intro m τ S _ h; exact absurd rfl h
 | succ n ih =>
  intro m τ S hm h
  obtain ⟨m,rfl⟩:∃ k,m = k + 1:=⟨m - 1,by omega⟩
  simp only [whileN] at h ⊢
  cases hc:c τ S with
  | er c p S1 => rfl
  | bad => rfl
  | ok k S1 =>
   rw [hc] at h
   simp only [bndS_ok] at h ⊢
   by_cases hk:k = true
   ·rw [if_pos hk] at h ⊢
    rw [if_pos hk]
    cases hb:b τ S1 with
    | rt v S2 => rfl
    | er c p τ' S2 => rfl
    | bad => rfl
    | nx τ' S2 =>
     rw [hb] at h
     simp only [seqO_nx] at h ⊢
     exact ih m τ' S2 (by omega) h
   ·rw [if_neg hk,if_neg hk]
theorem whileS_of {c:EM Bool} {b:SM} {n:Nat} {τ : En} {S:Sto} (h:wpS (whileN c b n τ S) N T R):wpS (whileS c b τ S) N T R:=by
 have hne:whileN c b n τ S ≠ .bad:=fun z => by rw [z] at h; exact h
 unfold whileS
 have hx:∃ n,whileN c b n τ S ≠ .bad:=⟨n,hne⟩
 rw [dif_pos hx]
 have h2:=Classical.choose_spec hx
 generalize Classical.choose hx = m at h2 ⊢
 rcases Nat.le_total n m with q | q
 ·rw [whileN_mono n m τ S q hne]; exact h
 ·rw [← whileN_mono m n τ S q h2]; exact h
theorem while_inv {c:EM Bool} {b:SM} (Inv:Nat→En→Sto→Prop) {m:Nat} {τ : En} {S:Sto} (h0:Inv m τ S)
  (hs:∀ m τ S,Inv m τ S→wp (c τ S) (fun k S1 => (k = true→wpS (b τ S1) (fun τ' S' => ∃ j,j < m∧Inv j τ' S') T R)∧(k = false→N τ S1)) (fun c p S1 => R c p τ S1)):wpS (whileS c b τ S) N T R:=by
 suffices hh:∀ m τ S,Inv m τ S→∃ n,wpS (whileN c b n τ S) N T R by
  obtain ⟨n,h⟩:=hh m τ S h0
  exact whileS_of h
 intro m
 induction m using Nat.strongRecOn with
 | ind m ih =>
  intro τ S h
  have h1:=hs m τ S h
  cases hc:c τ S with
  | bad => rw [hc] at h1; exact h1.elim
  | er c' p S1 => rw [hc] at h1; exact ⟨1,by simp only [whileN,hc]; exact h1⟩
  | ok k S1 =>
   rw [hc] at h1
   obtain ⟨ht,hf⟩:=h1
   cases k with
   | false => exact ⟨1,by simp only [whileN,hc]; exact hf rfl⟩
   | true =>
    have h2:=ht rfl
    cases hb:b τ S1 with
    | bad => rw [hb] at h2; exact h2.elim
    | rt v S2 => rw [hb] at h2; exact ⟨1,by simp only [whileN,hc,bndS_ok,if_true,hb]; exact h2⟩
    | er c' p τ' S2 => rw [hb] at h2; exact ⟨1,by simp only [whileN,hc,bndS_ok,if_true,hb]; exact h2⟩
    | nx τ' S2 =>
     rw [hb] at h2
     obtain ⟨j,hj,hi⟩:=h2
     obtain ⟨n,hn⟩:=ih j hj τ' S2 hi
     exact ⟨n + 1,by simp only [whileN,hc,bndS_ok,if_true,hb,seqO_nx]; exact hn⟩
end
def Keep (M:List Nat) (S S':Sto):Prop:=S.length ≤ S'.length∧∀ l,l < S.length→l ∉ M→S'[l]? = S[l]?
section
variable {M:List Nat} {S S1 S2:Sto} {l:Nat} {o:Ob}
theorem lt_of_get (h:S[l]? = some o):l < S.length:=(List.getElem?_eq_some_iff.mp h).1
theorem Keep.refl:Keep M S S:=⟨Nat.le_refl _,fun _ _ _ => rfl⟩
theorem Keep.trans (a:Keep M S S1) (b:Keep M S1 S2):Keep M S S2:=⟨Nat.le_trans a.1 b.1,fun l h n => (b.2 l (Nat.lt_of_lt_of_le h a.1) n).trans (a.2 l h n)⟩
theorem Keep.mono {M':List Nat} (a:Keep M S S1) (h:∀ x ∈ M,x < S.length→x ∈ M'):Keep M' S S1:=⟨a.1,fun l hl n => a.2 l hl fun m => n (h l m hl)⟩
theorem Keep.get (k:Keep M S S1) (h:S[l]? = some o) (n:l ∉ M):S1[l]? = some o:=(k.2 l (lt_of_get h) n).trans h
theorem Keep.lt (k:Keep M S S1) (h:l < S.length):l < S1.length:=Nat.lt_of_lt_of_le h k.1
theorem Keep.app:Keep M S (S ++ [o]):=⟨by simp,fun l h _ => List.getElem?_append_left h⟩
theorem Keep.set (h:l ∈ M):Keep M S (S.set l o):=⟨by simp,fun i _ n => List.getElem?_set_ne fun z => n (by rw [← z]; exact h)⟩
theorem app_new:(S ++ [o])[S.length]? = some o:=by simp
theorem set_get {o':Ob} (h:S[l]? = some o'):(S.set l o)[l]? = some o:=List.getElem?_set_self (lt_of_get h)
end
mutual
def Pl:Nat→PV→Prop
 | _,.non => True
 | _,.int _ => True
 | _,.str x => x.cps.all (· < 0x110000) = true
 | 0,_ => False
 | n + 1,.tup xs => PlL n xs
 | _,_ => False
def PlL:Nat→List PV→Prop
 | _,[] => True
 | n,x :: xs => Pl n x∧PlL n xs
end
theorem PlL_iff {n:Nat}:∀ {xs:List PV},PlL n xs↔∀ x ∈ xs,Pl n x
 | [] => by simp [PlL]
 | x :: xs => by simp [PlL,PlL_iff (xs:=xs)]
mutual
theorem Pl.up:∀ (n:Nat) (p:PV),Pl n p→Pl (n + 1) p
 | _,.non,_ => by simp [Pl]
 | _,.int _,_ => by simp [Pl]
 | n,.str x,h => by cases n <;> simpa [Pl] using h
 | 0,.tup _,h => by simp [Pl] at h
 | n + 1,.tup xs,h => by
  have h':PlL n xs:=by simpa [Pl] using h
  have:=PlL.up n xs h'
  simpa [Pl] using this
 | n,.bl _,h => by cases n <;> simp [Pl] at h
 | n,.fls _,h => by cases n <;> simp [Pl] at h
 | n,.loc _,h => by cases n <;> simp [Pl] at h
 | n,.fn _ _ _,h => by cases n <;> simp [Pl] at h
theorem PlL.up:∀ (n:Nat) (xs:List PV),PlL n xs→PlL (n + 1) xs
 | _,[],_ => by simp [PlL]
 | n,x :: xs,h => by
  have h':Pl n x∧PlL n xs:=by simpa [PlL] using h
  exact ⟨Pl.up n x h'.1,PlL.up n xs h'.2⟩
end
theorem Pl.le {n m:Nat} {p:PV} (h:Pl n p) (k:n ≤ m):Pl m p:=by
 induction k with
 | refl => exact h
 | step _ ih => exact Pl.up _ _ ih
mutual
theorem Pl.toD:∀ (n:Nat) (p:PV),Pl n p→∃ d,toD p = some d∧d.canLay0 = true∧d.depth ≤ n
 | _,.non,_ => ⟨_,rfl,rfl,Nat.zero_le _⟩
 | _,.int _,_ => ⟨_,rfl,rfl,Nat.zero_le _⟩
 | n,.str x,h => ⟨_,rfl,by cases n <;> simpa [Pl,PyData.canLay0,PyData.strOk] using h,Nat.zero_le _⟩
 | 0,.tup _,h => by simp [Pl] at h
 | n + 1,.tup xs,h => by
  obtain ⟨ds,h1,h2,h3⟩:=PlL.toD n xs (by simpa [Pl] using h)
  exact ⟨.tuple ds,by simp [PL.toD,h1],h2,by show PyData.depthAll ds + 1 ≤ n + 1; omega⟩
 | n,.bl _,h => by cases n <;> simp [Pl] at h
 | n,.fls _,h => by cases n <;> simp [Pl] at h
 | n,.loc _,h => by cases n <;> simp [Pl] at h
 | n,.fn _ _ _,h => by cases n <;> simp [Pl] at h
theorem PlL.toD:∀ (n:Nat) (xs:List PV),PlL n xs→∃ ds,toDL xs = some ds∧PyData.canLayAll0 ds = true∧PyData.depthAll ds ≤ n
 | _,[],_ => ⟨[],rfl,rfl,Nat.zero_le _⟩
 | n,x :: xs,h => by
  have h':Pl n x∧PlL n xs:=by simpa [PlL] using h
  obtain ⟨d,h1,h2,h3⟩:=Pl.toD n x h'.1
  obtain ⟨ds,h4,h5,h6⟩:=PlL.toD n xs h'.2
  exact ⟨d :: ds,by simp [PL.toDL,h1,h4],by simp [PyData.canLayAll0,h2,h5],by show max d.depth (PyData.depthAll ds) ≤ n; omega⟩
end
mutual
theorem Pl.eqv:∀ (n:Nat) (p q:PV) (d e:PyData),Pl n p→Pl n q→toD p = some d→toD q = some e→(PyData.eqv d e = true↔p = q)
 | 0,.tup _,_,_,_,h,_,_,_ => by simp [Pl] at h
 | n,.bl _,_,_,_,h,_,_,_ => by cases n <;> simp [Pl] at h
 | n,.fls _,_,_,_,h,_,_,_ => by cases n <;> simp [Pl] at h
 | n,.loc _,_,_,_,h,_,_,_ => by cases n <;> simp [Pl] at h
 | n,.non,q,d,e,_,hq,h1,h2 => by
  cases q <;> first | (exfalso; revert hq; cases n <;> simp [Pl]; done) | skip
  all_goals (simp only [PL.toD,Option.some.injEq] at h1; subst h1)
  ·simp only [PL.toD,Option.some.injEq] at h2; subst h2; simp [PyData.eqv]
  ·simp only [PL.toD,Option.some.injEq] at h2; subst h2; simp [PyData.eqv]
  ·simp only [PL.toD,Option.some.injEq] at h2; subst h2; simp [PyData.eqv]
  ·simp only [PL.toD,Option.map_eq_some_iff] at h2; obtain ⟨_,_,rfl⟩:=h2; simp [PyData.eqv]
 | n,.int i,q,d,e,_,hq,h1,h2 => by
  cases q <;> first | (exfalso; revert hq; cases n <;> simp [Pl]; done) | skip
  all_goals (simp only [PL.toD,Option.some.injEq] at h1; subst h1)
  ·simp only [PL.toD,Option.some.injEq] at h2; subst h2; simp [PyData.eqv]
  ·simp only [PL.toD,Option.some.injEq] at h2; subst h2; simp [PyData.eqv]
  ·simp only [PL.toD,Option.some.injEq] at h2; subst h2; simp [PyData.eqv]
  ·simp only [PL.toD,Option.map_eq_some_iff] at h2; obtain ⟨_,_,rfl⟩:=h2; simp [PyData.eqv]
 | n,.str i,q,d,e,_,hq,h1,h2 => by
  cases q <;> first | (exfalso; revert hq; cases n <;> simp [Pl]; done) | skip
  all_goals (simp only [PL.toD,Option.some.injEq] at h1; subst h1)
  ·simp only [PL.toD,Option.some.injEq] at h2; subst h2; simp [PyData.eqv]
  ·simp only [PL.toD,Option.some.injEq] at h2; subst h2; simp [PyData.eqv]
  ·simp only [PL.toD,Option.some.injEq] at h2; subst h2; simp [PyData.eqv]
  ·simp only [PL.toD,Option.map_eq_some_iff] at h2; obtain ⟨_,_,rfl⟩:=h2; simp [PyData.eqv]
 | n + 1,.tup xs,q,d,e,hp,hq,h1,h2 => by
  simp only [PL.toD,Option.map_eq_some_iff] at h1
  obtain ⟨ds,h1,rfl⟩:=h1
  cases q <;> first | (exfalso; revert hq; simp [Pl]; done) | skip
  ·simp only [PL.toD,Option.some.injEq] at h2; subst h2; simp [PyData.eqv]
  ·simp only [PL.toD,Option.some.injEq] at h2; subst h2; simp [PyData.eqv]
  ·simp only [PL.toD,Option.some.injEq] at h2; subst h2; simp [PyData.eqv]
  ·rename_i ys
   simp only [PL.toD,Option.map_eq_some_iff] at h2
   obtain ⟨es,h2,rfl⟩:=h2
   have:=PlL.eqv n xs ys ds es (by simpa [Pl] using hp) (by simpa [Pl] using hq) h1 h2
   simpa [PyData.eqv] using this
theorem PlL.eqv:∀ (n:Nat) (xs ys:List PV) (ds es:List PyData),PlL n xs→PlL n ys→toDL xs = some ds→toDL ys = some es→(PyData.eqvAll ds es = true↔xs = ys)
 | n,[],[],ds,es,_,_,h1,h2 => by
  simp only [PL.toDL,Option.some.injEq] at h1 h2; subst h1; subst h2; simp [PyData.eqvAll]
 | n,[],y :: ys,ds,es,_,_,h1,h2 => by
  simp only [PL.toDL,Option.some.injEq,Option.bind_eq_some_iff,Option.map_eq_some_iff] at h1 h2
  obtain ⟨_,_,_,_,rfl⟩:=h2; subst h1; simp [PyData.eqvAll]
 | n,x :: xs,[],ds,es,_,_,h1,h2 => by
  simp only [PL.toDL,Option.some.injEq,Option.bind_eq_some_iff,Option.map_eq_some_iff] at h1 h2
  obtain ⟨_,_,_,_,rfl⟩:=h1; subst h2; simp [PyData.eqvAll]
 | n,x :: xs,y :: ys,ds,es,hp,hq,h1,h2 => by
  simp only [PL.toDL,Option.bind_eq_some_iff,Option.map_eq_some_iff] at h1 h2
  obtain ⟨d,a1,dt,a2,rfl⟩:=h1
  obtain ⟨e,b1,et,b2,rfl⟩:=h2
  have hp':Pl n x∧PlL n xs:=by simpa [PlL] using hp
  have hq':Pl n y∧PlL n ys:=by simpa [PlL] using hq
  have i1:=Pl.eqv n x y d e hp'.1 hq'.1 a1 b1
  have i2:=PlL.eqv n xs ys dt et hp'.2 hq'.2 a2 b2
  simp [PyData.eqvAll,i1,i2]
end
theorem toDS_plain {S:Sto} {n:Nat} {p:PV} (h:Pl n p):toDS S p = toD p:=by
 cases p <;> first | rfl | (exfalso; revert h; cases n <;> simp [Pl]; done)
theorem shaped_of {d:PyData} (h1:d.canLay0 = true) (h2:d.depth ≤ 64):SeqAt.shaped d = true:=by
 unfold SeqAt.shaped; simp [h1,h2]
theorem eqB_plain {n:Nat} {p q:PV} {S:Sto} (hn:n ≤ 64) (hp:Pl n p) (hq:Pl n q):∃ b,eqB p q S = some b∧(b = true↔p = q):=by
 obtain ⟨d,h1,h2,h3⟩:=Pl.toD n p hp
 obtain ⟨e,h4,h5,h6⟩:=Pl.toD n q hq
 unfold eqB
 split
 ·exact ⟨_,rfl,by simp⟩
 ·exact ⟨_,rfl,by simp⟩
 ·exact ⟨_,rfl,by simp⟩
 ·rw [toDS_plain hp,toDS_plain hq,h1,h4]
  simp only [shaped_of h2 (by omega),shaped_of h5 (by omega),and_self,if_true]
  exact ⟨_,rfl,Pl.eqv n p q d e hp hq h1 h4⟩
theorem eqB_lists {n:Nat} {l k:Nat} {xs ys:List PV} {S:Sto} (hn:n < 64) (hl:S[l]? = some (.lst xs)) (hk:S[k]? = some (.lst ys)) (hp:PlL n xs) (hq:PlL n ys):∃ b,eqB (.loc l) (.loc k) S = some b∧(b = true↔xs = ys):=by
 obtain ⟨d,h1,h2,h3⟩:=PlL.toD n xs hp
 obtain ⟨e,h4,h5,h6⟩:=PlL.toD n ys hq
 unfold eqB
 have hd:SeqAt.shaped (.list d) = true:=shaped_of h2 (by show PyData.depthAll d + 1 ≤ 64; omega)
 have he:SeqAt.shaped (.list e) = true:=shaped_of h5 (by show PyData.depthAll e + 1 ≤ 64; omega)
 simp only [toDS,hl,hk,h1,h4,Option.map_some,hd,he,and_self,if_true]
 exact ⟨_,rfl,by simpa [PyData.eqv] using PlL.eqv n xs ys d e hp hq h1 h4⟩

section
variable {N:En→Sto→Prop} {T:PV→Sto→Prop} {R:Str→PV→En→Sto→Prop}
theorem for_wp {t:Wk} {g:GM} {b:SM} (Inv:List PV→List PV→En→Sto→Prop) {items:List PV} {τ : En} {S:Sto} (h0:Inv [] items τ S)
  (hs:∀ dn p rs τ S (J:En→Sto→Prop),items = dn ++ p :: rs→Inv dn (p :: rs) τ S→(∀ τ' S',Inv (dn ++ [p]) rs τ' S'→J τ' S')→t.ok S∧∃ τ1,g p τ = some τ1∧wpS (b τ1 S) J T R)
  (he:∀ τ S,Inv items [] τ S→t.ok S∧N τ S):wpS (forL t g b items τ S) N T R :=
 forL_inv Inv h0 (fun dn p rs τ S e h => hs dn p rs τ S _ e h fun _ _ k => k) he
theorem acc_wp {P:List PV→Sto→Prop} {R:Str→PV→Sto→Prop} {t:Wk} {g:GM} {st:List PV→En→Sto→Out (List PV)} (Inv:List PV→List PV→List PV→Sto→Prop) {items:List PV} {acc:List PV} {τ : En} {S:Sto} (h0:Inv [] items acc S)
  (hs:∀ dn p rs acc S (J:List PV→Sto→Prop),items = dn ++ p :: rs→Inv dn (p :: rs) acc S→(∀ a S',Inv (dn ++ [p]) rs a S'→J a S')→t.ok S∧∃ τ1,g p τ = some τ1∧wp (st acc τ1 S) J R)
  (he:∀ acc S,Inv items [] acc S→t.ok S∧P acc S):wp (accL t g st acc items τ S) P R :=
 accL_inv Inv h0 (fun dn p rs acc S e h => hs dn p rs acc S _ e h fun _ _ k => k) he
theorem while_wp {c:EM Bool} {b:SM} (Inv:Nat→En→Sto→Prop) {m:Nat} {τ : En} {S:Sto} (h0:Inv m τ S)
  (hs:∀ m τ S (C:Bool→Sto→Prop) (J:En→Sto→Prop),Inv m τ S→(∀ S1,wpS (b τ S1) J T R→C true S1)→(∀ S1,N τ S1→C false S1)→(∀ j τ' S',j < m→Inv j τ' S'→J τ' S')→wp (c τ S) C (rK R τ)):wpS (whileS c b τ S) N T R :=
 while_inv Inv h0 fun m τ S h => hs m τ S _ (fun τ' S' => ∃ j,j < m∧Inv j τ' S') h (fun S1 k => ⟨fun _ => k,fun z => by cases z⟩) (fun S1 k => ⟨fun z => by (cases z),fun _ => k⟩) fun j τ' S' hj hi => ⟨j,hj,hi⟩
theorem wpS_mid {o:OS} (M:En→Sto→Prop) (h:∀ J:En→Sto→Prop,(∀ τ S,M τ S→J τ S)→wpS o J T R) (k:∀ τ S,M τ S→N τ S):wpS o N T R:=h N k
end
theorem split3 {α β : Type} {f : α→β} {xs:List α} {dn rs:List β} {p : β} (h:xs.map f = dn ++ p :: rs):∃ a y b,xs = a ++ y :: b∧dn = a.map f∧p = f y∧rs = b.map f:=by
 obtain ⟨a,c,h1,h2,h3⟩:=List.map_eq_append_iff.mp h
 obtain ⟨y,b,h4,h5,h6⟩:=List.map_eq_cons_iff.mp h3
 exact ⟨a,y,b,by rw [h1,h4],h2.symm,h5.symm,h6.symm⟩
theorem forM_wp {α : Type} {N:En→Sto→Prop} {T:PV→Sto→Prop} {R:Str→PV→En→Sto→Prop} {t:Wk} {g:GM} {b:SM} (f : α→PV) {xs:List α} (Inv:List α→En→Sto→Prop) {τ : En} {S:Sto} (h0:Inv [] τ S)
  (hs:∀ dn x rs τ S (J:En→Sto→Prop),xs = dn ++ x :: rs→Inv dn τ S→(∀ τ' S',Inv (dn ++ [x]) τ' S'→J τ' S')→t.ok S∧∃ τ1,g (f x) τ = some τ1∧wpS (b τ1 S) J T R)
  (he:∀ τ S,Inv xs τ S→t.ok S∧N τ S):wpS (forL t g b (xs.map f) τ S) N T R:=by
 have key:∀ (rs dn:List α) (τ : En) (S:Sto),xs = dn ++ rs→Inv dn τ S→wpS (forL t g b (rs.map f) τ S) N T R:=by
  intro rs
  induction rs with
  | nil =>
   intro dn τ S e h
   have e':xs = dn:=by simpa using e
   subst e'
   obtain ⟨h1,h2⟩:=he τ S h
   simp only [List.map_nil,forL,if_pos h1]
   exact h2
  | cons p rs ih =>
   intro dn τ S e h
   obtain ⟨h1,τ1,h2,h3⟩:=hs dn p rs τ S _ e h (fun τ' S' hh => ih (dn ++ [p]) τ' S' (by rw [e]; simp) hh)
   simp only [List.map_cons,forL,if_pos h1,h2]
   rw [wpS_seqO]
   exact h3
 exact key xs [] τ S rfl h0
theorem accM_wp {α : Type} {P:List PV→Sto→Prop} {R:Str→PV→Sto→Prop} {t:Wk} {g:GM} {st:List PV→En→Sto→Out (List PV)} (f : α→PV) {xs:List α} (Inv:List α→List PV→Sto→Prop) {acc:List PV} {τ : En} {S:Sto} (h0:Inv [] acc S)
  (hs:∀ dn x rs acc S (J:List PV→Sto→Prop),xs = dn ++ x :: rs→Inv dn acc S→(∀ a S',Inv (dn ++ [x]) a S'→J a S')→t.ok S∧∃ τ1,g (f x) τ = some τ1∧wp (st acc τ1 S) J R)
  (he:∀ acc S,Inv xs acc S→t.ok S∧P acc S):wp (accL t g st acc (xs.map f) τ S) P R:=by
 have key:∀ (rs dn:List α) (acc:List PV) (S:Sto),xs = dn ++ rs→Inv dn acc S→wp (accL t g st acc (rs.map f) τ S) P R:=by
  intro rs
  induction rs with
  | nil =>
   intro dn acc S e h
   have e':xs = dn:=by simpa using e
   subst e'
   obtain ⟨h1,h2⟩:=he acc S h
   rw [List.map_nil,accL_nil,if_pos h1]
   exact h2
  | cons p rs ih =>
   intro dn acc S e h
   obtain ⟨h1,τ1,h2,h3⟩:=hs dn p rs acc S (fun a S => wp (accL t g st a (rs.map f) τ S) P R) e h (fun a S' hh => ih (dn ++ [p]) a S' (by rw [e]; simp) hh)
   simp only [List.map_cons,accL,if_pos h1,h2]
   rw [wp_bnd]
   exact h3
 exact key xs [] acc S rfl h0
section
variable {P:PV→Sto→Prop} {R:Str→PV→Sto→Prop} {S:Sto} {xs ys:List PV} {l k:Nat} {p:PV}
theorem alloc_wp {Q:PV→Sto→Prop} {o:Ob} (h:∀ n S',S'[n]? = some o→Keep [] S S'→S.length ≤ n→Q (.loc n) S'):Q (.loc S.length) (S ++ [o]) :=
 h _ _ app_new .app (Nat.le_refl _)
theorem new_wp (h:∀ n S',S'[n]? = some (.lst xs)→Keep [] S S'→S.length ≤ n→P (.loc n) S'):newK P xs S:=alloc_wp h
theorem lst_wp (hl:xs.length ≤ 16777216) (h:∀ n S',S'[n]? = some (.lst xs)→Keep [] S S'→S.length ≤ n→P (.loc n) S'):wp (lstO xs S) P R:=by
 rw [zq2,if_pos hl]; exact alloc_wp h
theorem addL_wp (h1:S[l]? = some (.lst xs)) (h2:S[k]? = some (.lst ys)) (hb:xs.length + ys.length ≤ 16777216) (h:∀ n S',S'[n]? = some (.lst (xs ++ ys))→Keep [] S S'→S.length ≤ n→P (.loc n) S'):wp (lift (addP (.loc l) (.loc k) S)) P R:=by
 rw [zq1,h1,h2]
 simp only [if_pos hb,lift_some,wp_ok]
 exact alloc_wp h
theorem list_wp (h1:itemsP p S = some xs) (h:∀ n S',S'[n]? = some (.lst xs)→Keep [] S S'→S.length ≤ n→P (.loc n) S'):wp (lift (listP p S)) P R:=by
 rw [zq3,h1]
 exact alloc_wp h
theorem slL_wp {lo hi:Option Int} (h1:S[l]? = some (.lst xs)) (h:∀ n S',S'[n]? = some (.lst (cutP xs lo hi))→Keep [] S S'→S.length ≤ n→P (.loc n) S'):wp (lift (slP (.loc l) lo hi S)) P R:=by
 rw [zq4,h1]
 exact alloc_wp h
end
theorem acc_map {α : Type} {P:List PV→Sto→Prop} {R:Str→PV→Sto→Prop} {t:Wk} {g:GM} {st:List PV→En→Sto→Out (List PV)} (i f : α→PV) {xs:List α} {acc:List PV} {τ : En} {S:Sto} (hok:t.ok S) (hl:acc.length + xs.length ≤ 16777216)
  (hs:∀ x ∈ xs,∀ (acc:List PV) (J:List PV→Sto→Prop),acc.length < 16777216→J (acc ++ [f x]) S→∃ τ1,g (i x) τ = some τ1∧wp (st acc τ1 S) J R)
  (he:P (acc ++ xs.map f) S):wp (accL t g st acc (xs.map i) τ S) P R:=by
 induction xs generalizing acc with
 | nil => rw [List.map_nil,accL_nil,if_pos hok]; simpa using he
 | cons x xs ih =>
  simp only [List.length_cons] at hl
  obtain ⟨τ1,h1,h2⟩:=hs x (by simp) acc (fun a S => wp (accL t g st a (xs.map i) τ S) P R) (by omega) (ih (acc:=acc ++ [f x]) (by simp; omega) (fun y hy => hs y (by simp [hy])) (by simpa using he))
  simp only [List.map_cons,accL,if_pos hok,h1]
  rw [wp_bnd]
  exact h2
theorem strs_inj:∀ {a b:List Str},a.map PV.str = b.map PV.str→a = b
 | [],[],_ => rfl
 | [],_ :: _,h => by simp at h
 | _ :: _,[],h => by simp at h
 | x :: a,y :: b,h => by
  simp only [List.map_cons,List.cons.injEq,PV.str.injEq] at h
  rw [h.1,strs_inj h.2]
theorem strsP_comp {α : Type} (f : α→Str) (cs:List α):strsP (cs.map fun c => PV.str (f c)) = some (cs.map f):=by
 induction cs with
 | nil => rfl
 | cons c cs ih => simp [strsP,ih]
theorem strsP_comp' {α : Type} (f : α→Str) (cs:List α):strsP (cs.map (PV.str ∘ f)) = some (cs.map f):=strsP_comp f cs
end PL
namespace PL
open PySem PySem.Spec PyProof.Rows L2
def raO (C:Str) (τ : En):PV→Sto→OS:=fun v S => .er C v τ S
@[simp] theorem e_raO (C:Str) (τ : En) (v:PV) (S:Sto):raO C τ v S = .er C v τ S:=rfl
@[simp] theorem e_raiseS (C:Str) (m:EM PV) (τ : En) (S:Sto):raiseS C m τ S = bndS (m τ S) τ (raO C τ):=rfl
end PL
namespace PL
open PySem PySem.Spec PyProof.Rows L2
theorem map_inj_of {α β : Type} {f : α→β} (hf:∀ a b,f a = f b→a = b):∀ {xs ys:List α},xs.map f = ys.map f→xs = ys
 | [],[],_ => rfl
 | [],_ :: _,h => by simp at h
 | _ :: _,[],h => by simp at h
 | x :: xs,y :: ys,h => by
  simp only [List.map_cons,List.cons.injEq] at h
  rw [hf _ _ h.1,map_inj_of hf h.2]
@[simp] theorem ofString_inj {a b:String}:Str.ofString a = Str.ofString b↔a = b:=by
 constructor
 ·intro h
  rw [Str.ofString_eq_toList,Str.ofString_eq_toList] at h
  have h1:a.toList.map Char.toNat = b.toList.map Char.toNat:=by
   have:=congrArg (fun s:Str => s.cps.toList) h
   simpa using this
  have h2:a.toList = b.toList:=map_inj_of (fun x y e => Char.toNat_inj.mp e) h1
  exact String.toList_inj.mp h2
 ·intro h; rw [h]
def ch (x:Str):List Nat:=x.cps.toList
theorem ch_len (x:Str):(ch x).length = x.length:=by simp [ch,Str.length]
theorem ch_app (a b:Str):ch (a ++ b) = ch a ++ ch b:=by
 show (a.cps ++ b.cps).toList = _
 simp [ch]
theorem ch_ext {a b:Str} (h:ch a = ch b):a = b:=by
 cases a; cases b; simp [ch] at h; simp [h]
@[simp] theorem ch_mk (l:List Nat):ch ⟨l.toArray⟩ = l:=by simp [ch]
theorem ch_cut (x:Str) (lo hi:Option Int):ch (cutS x lo hi) = ((ch x).drop (HT.sIx x.length 0 lo)).take (HT.sIx x.length x.length hi - HT.sIx x.length 0 lo):=by
 simp [cutS,ch]
theorem ch_mul1 (c:Nat) (n:Int):ch (Txt.mul ⟨#[c]⟩ n) = List.replicate n.toNat c:=mul_one_list c n
theorem joinL_nil:∀ ps:List (List Nat),TL.joinL [] ps = ps.flatten
 | [] => rfl
 | [p] => by simp [TL.joinL]
 | p :: q :: r => by simp [TL.joinL,joinL_nil (q :: r)]
theorem ch_join0 (ys:List Str):ch (Txt.join ⟨#[]⟩ ys) = (ys.map ch).flatten:=by
 have e:=TL.tl_join ⟨#[]⟩ ys
 rw [← TL.join_eq] at e
 show TL.tl _ = _
 rw [e]
 exact joinL_nil _
def Lt (c:Nat):Prop:=97 ≤ c∧c ≤ 122
instance (c:Nat):Decidable (Lt c):=inferInstanceAs (Decidable (_∧_))
def Lw (x:Str):Prop:=∀ c ∈ ch x,Lt c
structure Nm (x:Str):Prop where
 l:Lw x
 p:1 ≤ x.length
 q:x.length ≤ 8
theorem Lw.plain {x:Str} (h:Lw x) (n:Nat):Pl n (.str x):=by
 cases n <;>
 ·simp only [Pl,← Array.all_toList,List.all_eq_true,decide_eq_true_eq]
  intro c hc
  have:=h c hc
  unfold Lt at this
  omega
theorem Lw.app {x y:Str} (h:Lw x) (k:Lw y):Lw (x ++ y):=fun c hc => by
 rw [ch_app] at hc
 rcases List.mem_append.mp hc with q | q
 ·exact h c q
 ·exact k c q
theorem Lw.cut {x:Str} (h:Lw x) (lo hi:Option Int):Lw (cutS x lo hi):=fun c hc => by
 rw [ch_cut] at hc
 exact h c (List.mem_of_mem_drop (List.mem_of_mem_take hc))
theorem Lw.one {c:Nat} (h:Lt c):Lw ⟨#[c]⟩:=fun d hd => by
 have:d = c:=by simpa [ch] using hd
 subst this; exact h
theorem Lw.nil:Lw ⟨#[]⟩:=fun d hd => by simp [ch] at hd
theorem abc_ch:ch (Str.ofString "abcdefghijklmnopqrstuvwxyz") = List.range' 97 26:=by decide +kernel
theorem abc_len:(Str.ofString "abcdefghijklmnopqrstuvwxyz").length = 26:=by rw [← ch_len,abc_ch]; rfl
theorem abc_mem {c:Nat}:c ∈ (Str.ofString "abcdefghijklmnopqrstuvwxyz").cps.toList↔Lt c:=by
 show c ∈ ch _↔_
 rw [abc_ch,List.mem_range']
 unfold Lt
 constructor
 ·rintro ⟨i,h1,h2⟩; omega
 ·intro h; exact ⟨c - 97,by omega,by omega⟩
theorem abc_at {i:Int} (h0:0 ≤ i) (h:i < 26):∃ c,atI (Str.ofString "abcdefghijklmnopqrstuvwxyz").cps.toList i = some c∧Lt c:=by
 obtain ⟨c,h1,_,h2⟩:=atI_nat (xs:=(Str.ofString "abcdefghijklmnopqrstuvwxyz").cps.toList) h0 (by
  have:=abc_len
  rw [← ch_len] at this
  show i < ((ch _).length:Int)
  omega)
 exact ⟨c,h1,abc_mem.mp h2⟩
theorem empty_str:Str.ofString "" = ⟨#[]⟩:=by decide +kernel
theorem strsP_map:∀ ys:List Str,strsP (ys.map PV.str) = some ys
 | [] => rfl
 | y :: ys => by simp [strsP,strsP_map ys]
theorem inItems_strs (x:Str) (ys:List Str):inItems (.str x) (ys.map PV.str) = some (decide (x ∈ ys)):=by
 unfold inItems
 rw [if_pos (by simp [flatP])]
 simp only [inV,List.map_map]
 congr 1
 induction ys with
 | nil => simp
 | cons y ys ih =>
  simp only [List.map_cons,List.any_cons,Function.comp,flatW,eqV] at ih ⊢
  rw [ih]
  by_cases h:x = y
  ·subst h; simp
  ·have h':(y == x) = false:=by simpa using fun z => h z.symm
   simp [h,h']
theorem inB_strs {S:Sto} {l:Nat} {x:Str} {ys:List Str} (h:S[l]? = some (.lst (ys.map PV.str))):inB (.str x) (.loc l) S = some (decide (x ∈ ys)):=by
 unfold inB
 simp only [h]
 rw [inItems_strs]
theorem inB_char {S:Sto} {c:Nat}:inB (.str ⟨#[c]⟩) (.str (Str.ofString "abcdefghijklmnopqrstuvwxyz")) S = some (decide (Lt c)):=by
 show some (decide (c ∈ (Str.ofString "abcdefghijklmnopqrstuvwxyz").cps.toList)) = _
 simp only [abc_mem]
theorem some_out {α : Type} [DecidableEq α]:∀ {xs us:List α},xs.Nodup→us.length < xs.length→∃ x ∈ xs,x ∉ us
 | [],_,_,h => by simp at h
 | x :: xs,us,nd,h => by
  by_cases hx:x ∈ us
  ·have nd':=List.nodup_cons.mp nd
   obtain ⟨y,hy,hn⟩:=some_out (us:=us.erase x) nd'.2 (by
    rw [List.length_erase_of_mem hx]
    have:=List.length_pos_of_mem hx
    simp at h; omega)
   refine ⟨y,List.mem_cons_of_mem _ hy,fun q => hn ((List.mem_erase_of_ne fun z => nd'.1 (by rw [← z]; exact hy)).mpr q)⟩
  ·exact ⟨x,by simp,hx⟩
theorem cut_le (x:Str) (lo hi:Option Int):(cutS x lo hi).length ≤ x.length:=by
 rw [← ch_len,ch_cut,← ch_len x]
 simp [List.length_take,List.length_drop]
 omega
theorem cut_8 (x:Str):(cutS x none (some 8)).length ≤ 8:=by
 rw [← ch_len,ch_cut]
 have:HT.sIx x.length x.length (some ((8:Nat):Int)) = min 8 x.length:=HT.sIx_nat _ _ 8
 have h:HT.sIx x.length x.length (some 8) ≤ 8:=by
  show HT.sIx x.length x.length (some ((8:Nat):Int)) ≤ 8
  rw [this]; omega
 simp only [List.length_take,List.length_drop]
 omega
theorem len_app (a b:Str):(a ++ b).length = a.length + b.length:=by
 rw [← ch_len,ch_app,List.length_append,ch_len,ch_len]
end PL
namespace PL
open PySem PySem.Spec PyProof.Rows L2
inductive Vl where
 | num (i:Int) | copy (x:Str) | add (x y:Str) | read | clean (x:Str) | call (f:Str) (xs:List Str)
inductive Rw where
 | set (x:Str) (v:Vl) | iff (x:Str) (a b:List Rw) | send (x:Str) | give (x:Str)
abbrev Hd:=Str × List Str
def stL (xs:List Str):List PV:=xs.map PV.str
def Vl.pv:Vl→PV
 | .num i => .tup [.str "num",.int i]
 | .copy x => .tup [.str "copy",.str x]
 | .add x y => .tup [.str "add",.str x,.str y]
 | .read => .tup [.str "read"]
 | .clean x => .tup [.str "clean",.str x]
 | .call f xs => .tup [.str "call",.str f,.tup (stL xs)]
mutual
def Rw.pv:Rw→PV
 | .set x v => .tup [.str "set",.str x,v.pv]
 | .iff x a b => .tup [.str "if",.str x,.tup (Rw.pvs a),.tup (Rw.pvs b)]
 | .send x => .tup [.str "send",.str x]
 | .give x => .tup [.str "give",.str x]
def Rw.pvs:List Rw→List PV
 | [] => []
 | r :: rs => r.pv :: Rw.pvs rs
end
theorem pvs_map:∀ rs:List Rw,Rw.pvs rs = rs.map Rw.pv
 | [] => rfl
 | r :: rs => by simp [Rw.pvs,pvs_map rs]
def Vl.ok (ns:List Str) (hs:List Hd):Vl→Prop
 | .num _ => True
 | .copy x => x ∈ ns
 | .add x y => x ∈ ns∧y ∈ ns
 | .read => True
 | .clean x => x ∈ ns
 | .call f xs => (∀ x ∈ xs,x ∈ ns)∧∃ ps,(f,ps) ∈ hs∧xs.length = ps.length
mutual
def Rw.ok (ns:List Str) (hs:List Hd):Rw→Prop
 | .set x v => x ∈ ns∧v.ok ns hs
 | .iff x a b => x ∈ ns∧Rw.oks ns hs a∧Rw.oks ns hs b
 | .send x => x ∈ ns
 | .give x => x ∈ ns
def Rw.oks (ns:List Str) (hs:List Hd):List Rw→Prop
 | [] => True
 | r :: rs => r.ok ns hs∧Rw.oks ns hs rs
end
mutual
def Rw.each:Rw→List Rw
 | .iff x a b => .iff x a b :: (Rw.eachs a ++ Rw.eachs b)
 | .set x v => [.set x v]
 | .send x => [.send x]
 | .give x => [.give x]
def Rw.eachs:List Rw→List Rw
 | [] => []
 | r :: rs => r.each ++ Rw.eachs rs
end
mutual
def Rw.dep:Rw→Nat
 | .iff _ a b => 1 + max (Rw.deps a) (Rw.deps b)
 | _ => 1
def Rw.deps:List Rw→Nat
 | [] => 0
 | r :: rs => max r.dep (Rw.deps rs)
end
theorem oks_app {ns:List Str} {hs:List Hd}:∀ {a b:List Rw},Rw.oks ns hs (a ++ b)↔Rw.oks ns hs a∧Rw.oks ns hs b
 | [],b => by simp [Rw.oks]
 | r :: a,b => by simp [Rw.oks,oks_app (a:=a),and_assoc]
theorem eachs_app:∀ {a b:List Rw},Rw.eachs (a ++ b) = Rw.eachs a ++ Rw.eachs b
 | [],b => by simp [Rw.eachs]
 | r :: a,b => by simp [Rw.eachs,eachs_app (a:=a)]
theorem deps_app:∀ {a b:List Rw},Rw.deps (a ++ b) = max (Rw.deps a) (Rw.deps b)
 | [],b => by simp [Rw.deps]
 | r :: a,b => by simp [Rw.deps,deps_app (a:=a)]; try omega
def Hd.pv (h:Hd):PV:=.tup [.str h.1,.tup (stL h.2)]
theorem hd_inj {a b:Hd} (h:a.pv = b.pv):a = b:=by
 obtain ⟨a1,a2⟩:=a
 obtain ⟨b1,b2⟩:=b
 simp only [Hd.pv,PV.tup.injEq,List.cons.injEq,PV.str.injEq,and_true] at h
 rw [h.1,strs_inj h.2]
theorem hds_inj:∀ {a b:List Hd},a.map Hd.pv = b.map Hd.pv→a = b
 | [],[],_ => rfl
 | [],_ :: _,h => by simp at h
 | _ :: _,[],h => by simp at h
 | x :: a,y :: b,h => by
  simp only [List.map_cons,List.cons.injEq] at h
  rw [hd_inj h.1,hds_inj h.2]
mutual
theorem Rw.each_pos:∀ r:Rw,1 ≤ r.each.length
 | .iff _ _ _ => by simp [Rw.each]
 | .set _ _ => by simp [Rw.each]
 | .send _ => by simp [Rw.each]
 | .give _ => by simp [Rw.each]
end
theorem len_eachs:∀ rs:List Rw,rs.length ≤ (Rw.eachs rs).length
 | [] => by simp
 | r :: rs => by
  have:=Rw.each_pos r
  have:=len_eachs rs
  simp [Rw.eachs]; omega
def Vl.asked:Vl→List Str
 | .num _ => []
 | .copy x => [x]
 | .add x y => [x,y]
 | .read => []
 | .clean x => [x]
 | .call _ xs => xs
def Rw.ins:Rw→List Str
 | .set x v => v.asked ++ [x]
 | .iff x _ _ => [x,x]
 | .send x => [x,x]
 | .give x => [x,x]
def Rw.called:Rw→PV
 | .set _ (.call f xs) => .tup [.str f,.tup (stL xs)]
 | _ => .non
theorem ins_ok {ns:List Str} {hs:List Hd} {r:Rw} (h:r.ok ns hs):∀ x ∈ r.ins,x ∈ ns:=by
 cases r with
 | set x v =>
  obtain ⟨h1,h2⟩:=h
  intro y hy
  simp only [Rw.ins,List.mem_append,List.mem_singleton] at hy
  rcases hy with hy | rfl
  ·cases v with
   | num _ => simp [Vl.asked] at hy
   | read => simp [Vl.asked] at hy
   | copy z => simp [Vl.asked] at hy; subst hy; exact h2
   | clean z => simp [Vl.asked] at hy; subst hy; exact h2
   | add z w => simp [Vl.asked] at hy; rcases hy with rfl | rfl; exact h2.1; exact h2.2
   | call f xs => exact h2.1 y hy
  ·exact h1
 | iff x a b => intro y hy; simp [Rw.ins] at hy; subst hy; exact h.1
 | send x => intro y hy; simp [Rw.ins] at hy; subst hy; exact h
 | give x => intro y hy; simp [Rw.ins] at hy; subst hy; exact h
mutual
theorem each_ok {ns:List Str} {hs:List Hd}:∀ (r:Rw),r.ok ns hs→∀ q ∈ r.each,q.ok ns hs
 | .set x v,h,q,hq => by simp [Rw.each] at hq; subst hq; exact h
 | .send x,h,q,hq => by simp [Rw.each] at hq; subst hq; exact h
 | .give x,h,q,hq => by simp [Rw.each] at hq; subst hq; exact h
 | .iff x a b,h,q,hq => by
  simp only [Rw.each,List.mem_cons,List.mem_append] at hq
  rcases hq with rfl | hq | hq
  ·exact h
  ·exact eachs_ok a h.2.1 q hq
  ·exact eachs_ok b h.2.2 q hq
theorem eachs_ok {ns:List Str} {hs:List Hd}:∀ (rs:List Rw),Rw.oks ns hs rs→∀ q ∈ Rw.eachs rs,q.ok ns hs
 | [],_,q,hq => by simp [Rw.eachs] at hq
 | r :: rs,h,q,hq => by
  simp only [Rw.eachs,List.mem_append] at hq
  rcases hq with hq | hq
  ·exact each_ok r h.1 q hq
  ·exact eachs_ok rs h.2 q hq
end
abbrev Cl:=Str × List Str
def Cl.pv (c:Cl):PV:=.tup [.str c.1,.tup (stL c.2)]
def Rw.callL:Rw→List Cl
 | .set _ (.call f xs) => [(f,xs)]
 | _ => []
theorem callL_some {r:Rw}:(r.called = .non∧r.callL = []) ∨ ∃ c,r.called = Cl.pv c∧r.callL = [c]:=by
 cases r with
 | set x v => cases v <;> first | exact .inl ⟨rfl,rfl⟩ | exact .inr ⟨_,rfl,rfl⟩
 | _ => exact .inl ⟨rfl,rfl⟩
theorem callL_ok {ns:List Str} {hs:List Hd} {r:Rw} (h:r.ok ns hs):∀ c ∈ r.callL,∃ ps,(c.1,ps) ∈ hs∧c.2.length = ps.length:=by
 intro c hc
 cases r with
 | set x v =>
  cases v with
  | call f xs => simp [Rw.callL] at hc; subst hc; exact h.2.2
  | _ => simp [Rw.callL] at hc
 | _ => simp [Rw.callL] at hc
theorem ins_len {ns:List Str} {hs:List Hd} {r:Rw} (h:r.ok ns hs) (hp:∀ h ∈ hs,h.2.length ≤ 4):r.ins.length ≤ 5:=by
 cases r with
 | set x v =>
  cases v with
  | call f xs =>
   obtain ⟨_,ps,h1,h2⟩:=h.2
   have:ps.length ≤ 4:=hp _ h1
   simp [Rw.ins,Vl.asked]; omega
  | _ => simp [Rw.ins,Vl.asked]
 | _ => simp [Rw.ins]
def Hd.kv (h:Hd):Key × PV:=(.inr h.1,.tup (stL h.2))
theorem onceK_nd:∀ {ks acc:List Key},(acc ++ ks).Nodup→onceK acc ks = acc ++ ks
 | [],acc,_ => by simp [onceK]
 | k :: ks,acc,h => by
  have hk:acc.any (fun j => decide (j = k)) = false:=by
   rw [List.any_eq_false]
   intro j hj
   simp only [decide_eq_true_eq]
   intro z
   exact (List.nodup_append.mp h).2.2 j hj k (by simp) z
  unfold onceK
  rw [hk]
  have:=onceK_nd (ks:=ks) (acc:=acc ++ [k]) (by simpa using h)
  simpa using this
theorem keysP_strs:∀ xs:List Str,keysP (stL xs) = some (xs.map Sum.inr)
 | [] => rfl
 | x :: xs => by
  have:=keysP_strs xs
  simp [stL,keysP,keyP] at this ⊢
  rw [this]
abbrev Df:=Str × List Str × List Rw
def Df.hd (d:Df):Hd:=(d.1,d.2.1)
def Df.pv (d:Df):PV:=.tup [.str d.1,.tup (stL d.2.1),.tup (Rw.pvs d.2.2)]
structure Hds (hs:List Hd):Prop where
 nd:(hs.map (·.1)).Nodup
 nm:∀ h ∈ hs,Nm h.1
 pd:∀ h ∈ hs,h.2.Nodup
 pn:∀ h ∈ hs,∀ x ∈ h.2,Nm x
 pl:∀ h ∈ hs,h.2.length ≤ 4
 main:((Str.ofString "main",[]):Hd) ∈ hs
 len:hs.length ≤ 6
structure Prg (ds:List Df):Prop where
 hd:Hds (ds.map Df.hd)
 ok:∀ d ∈ ds,∃ ns:List Str,(∀ x ∈ ns,Nm x)∧Rw.oks ns (ds.map Df.hd) d.2.2
 dep:∀ d ∈ ds,Rw.deps d.2.2 ≤ 4
 cnt:∀ d ∈ ds,(Rw.eachs d.2.2).length ≤ 60
@[simp] theorem cut_1 (a:PV) (xs:List PV):cutP (a :: xs) (some 1) none = xs:=by
 unfold cutP
 have:HT.sIx (a :: xs).length 0 (some 1) = 1:=by
  show HT.sIx (a :: xs).length 0 (some ((1:Nat):Int)) = 1
  rw [HT.sIx_nat]
  simp only [List.length_cons]; omega
 rw [this,HT.sIx_none]
 simp
theorem cut_take {xs:List PV} (k:Nat):cutP xs none (some (k:Int)) = xs.take k:=by
 unfold cutP
 rw [HT.sIx_nat,HT.sIx_none]
 simp
end PL
namespace PL
open PySem PySem.Spec PyProof.Rows L2
theorem Keep.step {M M':List Nat} {S S1 S2:Sto} (a:Keep M S S1) (b:Keep M' S1 S2) (h:∀ x ∈ M',x < S.length→x ∈ M):Keep M S S2 :=
 ⟨Nat.le_trans a.1 b.1,fun l hl n => (b.2 l (Nat.lt_of_lt_of_le hl a.1) fun z => n (h l z hl)).trans (a.2 l hl n)⟩
theorem dec_wp {c:Prop} [Decidable c] {P:PV→Sto→Prop} {S:Sto} (h1:c→P (.bl true) S) (h0:¬ c→P (.bl false) S):P (.bl (decide c)) S:=by
 by_cases h:c
 ·simpa [h] using h1 h
 ·simpa [h] using h0 h
theorem accF_wp {α : Type} {P:List PV→Sto→Prop} {R:Str→PV→Sto→Prop} {t:Wk} {g:GM} {st:List PV→En→Sto→Out (List PV)} (i : α→PV) (f : α→List PV) {xs:List α} {acc:List PV} {τ : En} {S:Sto} (hok:∀ S',Keep [] S S'→t.ok S') (hl:acc.length + (xs.flatMap f).length ≤ 16777216)
  (hs:∀ x ∈ xs,∀ (acc:List PV) (S':Sto) (J:List PV→Sto→Prop),acc.length + (f x).length ≤ 16777216→Keep [] S S'→(∀ S'',Keep [] S S''→J (acc ++ f x) S'')→∃ τ1,g (i x) τ = some τ1∧wp (st acc τ1 S') J R)
  (he:∀ S',Keep [] S S'→P (acc ++ xs.flatMap f) S'):wp (accL t g st acc (xs.map i) τ S) P R:=by
 have key:∀ (ys:List α) (acc:List PV) (S':Sto),(∀ x ∈ ys,x ∈ xs)→acc.length + (ys.flatMap f).length ≤ 16777216→Keep [] S S'→(∀ S'',Keep [] S S''→P (acc ++ ys.flatMap f) S'')→wp (accL t g st acc (ys.map i) τ S') P R:=by
  intro ys
  induction ys with
  | nil => intro acc S' _ _ k he; rw [List.map_nil,accL_nil,if_pos (hok _ k)]; simpa using he S' k
  | cons x ys ih =>
   intro acc S' hm hl k he
   simp only [List.flatMap_cons,List.length_append] at hl
   obtain ⟨τ1,h1,h2⟩:=hs x (hm x (by simp)) acc S' (fun a S => wp (accL t g st a (ys.map i) τ S) P R) (by omega) k (fun S'' k'' => ih (acc ++ f x) S'' (fun y hy => hm y (by simp [hy])) (by rw [List.length_append]; omega) k'' (fun S3 k3 => by simpa [List.flatMap_cons] using he S3 k3))
   simp only [List.map_cons,accL,if_pos (hok _ k),h1]
   rw [wp_bnd]
   exact h2
 exact key xs acc S (fun _ h => h) hl .refl he
theorem flatMap_one {α β : Type} (f : α→β):∀ xs:List α,xs.flatMap (fun x => [f x]) = xs.map f
 | [] => rfl
 | x :: xs => by rw [List.flatMap_cons,flatMap_one f xs]; rfl
theorem accK_wp {α : Type} {P:List PV→Sto→Prop} {R:Str→PV→Sto→Prop} {t:Wk} {g:GM} {st:List PV→En→Sto→Out (List PV)} (i : α→PV) (f : α→PV) {xs:List α} {acc:List PV} {τ : En} {S:Sto} (hok:∀ S',Keep [] S S'→t.ok S') (hl:acc.length + xs.length ≤ 16777216)
  (hs:∀ x ∈ xs,∀ (acc:List PV) (S':Sto) (J:List PV→Sto→Prop),acc.length < 16777216→Keep [] S S'→(∀ S'',Keep [] S S''→J (acc ++ [f x]) S'')→∃ τ1,g (i x) τ = some τ1∧wp (st acc τ1 S') J R)
  (he:∀ S',Keep [] S S'→P (acc ++ xs.map f) S'):wp (accL t g st acc (xs.map i) τ S) P R:=by
 have e:xs.flatMap (fun x => [f x]) = xs.map f:=flatMap_one f xs
 refine accF_wp i (fun x => [f x]) hok (by rw [e]; simpa using hl) (fun x hx acc S' J h k => hs x hx acc S' J (by simp at h; omega) k) (fun S' k => by rw [e]; exact he S' k)
theorem len_flatMap_le {α β : Type} {f : α→List β} {c:Nat}:∀ {xs:List α},(∀ x ∈ xs,(f x).length ≤ c)→(xs.flatMap f).length ≤ xs.length * c
 | [],_ => by simp
 | x :: xs,h => by
  have h1:=len_flatMap_le (xs:=xs) (f:=f) (c:=c) fun y hy => h y (by simp [hy])
  have h2:=h x (by simp)
  rw [List.flatMap_cons,List.length_append,List.length_cons,Nat.add_mul]
  omega
theorem boolsP_map {α : Type} (f : α→Bool):∀ xs:List α,boolsP (xs.map fun x => PV.bl (f x)) = some (xs.map f)
 | [] => rfl
 | x :: xs => by simp [boolsP,boolsP_map f xs]
def firstH (hs:List Hd) (f:Str):Option (List Str):=(hs.find? fun h => decide (h.1 = f)).map (·.2)
theorem firstH_app (a b:List Hd) (f:Str):firstH (a ++ b) f = (firstH a f).or (firstH b f):=by
 unfold firstH
 rw [List.find?_append]
 cases a.find? fun h => decide (h.1 = f) <;> simp
theorem firstH_mem {hs:List Hd} {f:Str} {ps:List Str} (nd:(hs.map (·.1)).Nodup) (h:(f,ps) ∈ hs):firstH hs f = some ps:=by
 induction hs with
 | nil => simp at h
 | cons x hs ih =>
  simp only [List.map_cons,List.nodup_cons] at nd
  rcases List.mem_cons.mp h with h | h
  ·subst h; simp [firstH]
  ·have hne:x.1 ≠ f:=fun z => nd.1 (by rw [z]; exact List.mem_map.mpr ⟨(f,ps),h,rfl⟩)
   have:=ih nd.2 h
   simp only [firstH,List.find?_cons,hne,decide_false] at this ⊢
   exact this
structure Oth (od:Nat) (hs:List Hd) (S:Sto):Prop where
 ex:∃ kvs:List (Key × PV),S[od]? = some (.dct kvs)∧kvs.length ≤ hs.length∧∀ f,valP kvs (.inr f) = (firstH hs f).map fun ps => PV.tup (stL ps)
theorem Oth.keep {od:Nat} {hs:List Hd} {S S':Sto} {M:List Nat} (o:Oth od hs S) (k:Keep M S S') (h:od ∉ M):Oth od hs S':=by
 obtain ⟨kvs,h1,h2⟩:=o.ex
 exact ⟨kvs,k.get h1 h,h2⟩
theorem Oth.lt {od:Nat} {hs:List Hd} {S:Sto} (o:Oth od hs S):od < S.length:=by
 obtain ⟨kvs,h1,h2⟩:=o.ex
 exact lt_of_get h1
theorem valP_app (a b:List (Key × PV)) (k:Key):valP (a ++ b) k = (valP a k).or (valP b k):=by
 unfold valP
 rw [List.find?_append]
 cases a.find? fun kv => decide (kv.1 = k) <;> simp
theorem putP_none {kvs:List (Key × PV)} {k:Key} {v:PV} (h:valP kvs k = none):putP kvs k v = kvs ++ [(k,v)]:=by
 unfold putP
 rw [if_neg]
 intro z
 simp only [List.any_eq_true,decide_eq_true_eq] at z
 obtain ⟨x,hx,e⟩:=z
 simp only [valP,Option.map_eq_none_iff,List.find?_eq_none] at h
 exact absurd e (by simpa using h x hx)
def nmB (x:Str):Bool:=decide (1 ≤ x.length) && decide (x.length ≤ 8) && (ch x).all fun c => decide (Lt c)
theorem nmB_iff {x:Str}:nmB x = true↔Nm x:=by
 unfold nmB
 simp only [Bool.and_eq_true,decide_eq_true_eq,List.all_eq_true]
 exact ⟨fun h => ⟨h.2,h.1.1,h.1.2⟩,fun h => ⟨⟨h.p,h.q⟩,h.l⟩⟩
def callB (hs:List Hd) (c:Cl):Bool:=match firstH hs c.1 with | some ps => decide (ps.length = c.2.length) | none => false
def namesL (d:Df):List Str:=(Rw.eachs d.2.2).flatMap Rw.ins ++ d.2.1
def callsL (d:Df):List Cl:=(Rw.eachs d.2.2).flatMap Rw.callL
def soundB (hs:List Hd) (d:Df):Bool:=(namesL d).all nmB && decide d.2.1.Nodup && (callsL d).all (callB hs)
theorem Prg.sound {ds:List Df} (p:Prg ds):∀ d ∈ ds,nmB d.1 = true∧soundB (ds.map Df.hd) d = true:=by
 intro d hd
 have hh:d.hd ∈ ds.map Df.hd:=List.mem_map.mpr ⟨d,hd,rfl⟩
 obtain ⟨ns,h1,h2⟩:=p.ok d hd
 refine ⟨nmB_iff.mpr (p.hd.nm _ hh),?_⟩
 unfold soundB
 simp only [Bool.and_eq_true,List.all_eq_true,decide_eq_true_eq]
 refine ⟨⟨?_,p.hd.pd _ hh⟩,?_⟩
 ·intro x hx
  rw [nmB_iff]
  rcases List.mem_append.mp hx with hx | hx
  ·obtain ⟨r,hr,hx⟩:=List.mem_flatMap.mp hx
   exact h1 x (ins_ok (eachs_ok _ h2 r hr) x hx)
  ·exact p.hd.pn _ hh x hx
 ·intro c hc
  obtain ⟨r,hr,hc⟩:=List.mem_flatMap.mp hc
  obtain ⟨ps,h3,h4⟩:=callL_ok (eachs_ok _ h2 r hr) c hc
  unfold callB
  rw [firstH_mem p.hd.nd h3]
  simp [h4]
theorem inr_nd:∀ xs:List Str,((xs.map Sum.inr:List Key)).Nodup↔xs.Nodup
 | [] => by simp
 | x :: xs => by simp [List.nodup_cons,inr_nd xs]
theorem len_set_lt {xs:List Str}:(onceK [] (xs.map Sum.inr)).length < xs.length↔¬ xs.Nodup:=by
 have inj:=inr_nd xs
 have key:∀ (ks acc:List Key),(onceK acc ks).length ≤ acc.length + ks.length∧(acc.Nodup→(onceK acc ks).length = acc.length + ks.length→(acc ++ ks).Nodup):=by
  intro ks
  induction ks with
  | nil => intro acc; simp [onceK]
  | cons k ks ih =>
   intro acc
   unfold onceK
   by_cases h:(acc.any fun j => decide (j = k)) = true
   ·rw [if_pos h]
    have:=(ih acc).1
    refine ⟨by simp; omega,fun _ z => ?_⟩
    simp at z; omega
   ·rw [if_neg h]
    have h1:=ih (acc ++ [k])
    simp only [List.length_append,List.length_cons,List.length_nil] at h1
    refine ⟨by simp; omega,fun nd z => ?_⟩
    have:(acc ++ [k]).Nodup:=by
     refine List.nodup_append.mpr ⟨nd,by simp,?_⟩
     intro x hx y hy e
     simp at hy
     subst hy
     subst e
     exact h (List.any_eq_true.mpr ⟨x,hx,by simp⟩)
    have:=h1.2 this (by simp at z; omega)
    simpa using this
 have h1:=key (xs.map Sum.inr) []
 simp only [List.length_nil,List.length_map,List.nil_append,Nat.zero_add] at h1
 constructor
 ·intro h nd
  have:onceK [] (xs.map Sum.inr) = [] ++ xs.map Sum.inr:=onceK_nd (by simpa using inj.mpr nd)
  rw [this] at h
  simp at h
 ·intro h
  rcases Nat.lt_or_ge (onceK [] (xs.map Sum.inr:List Key)).length xs.length with q | q
  ·exact q
  ·exact absurd (inj.mp (h1.2 (by simp) (by omega))) h
end PL
namespace PL
open PySem PySem.Spec PyProof.Rows L2
theorem rngI_0 (n:Nat):rngI 0 (n:Int) = (List.range n).map fun (i:Nat) => PV.int (i:Int):=by
 unfold rngI
 simp
theorem range_split {n i:Nat} {dn rs:List Nat} (h:List.range n = dn ++ i :: rs):i = dn.length∧i < n:=by
 have h1:(List.range n)[dn.length]? = some i:=by rw [h]; simp
 have hl:dn.length < n:=by
  have:=congrArg List.length h
  simp at this; omega
 rw [List.getElem?_range hl] at h1
 cases h1
 exact ⟨rfl,hl⟩
theorem forR_wp {N:En→Sto→Prop} {T:PV→Sto→Prop} {R:Str→PV→En→Sto→Prop} {t:Wk} {g:GM} {b:SM} {n:Nat} (Inv:Nat→En→Sto→Prop) {τ : En} {S:Sto} (h0:Inv 0 τ S)
  (hs:∀ i τ S (J:En→Sto→Prop),i < n→Inv i τ S→(∀ τ' S',Inv (i + 1) τ' S'→J τ' S')→t.ok S∧∃ τ1,g (.int (i:Int)) τ = some τ1∧wpS (b τ1 S) J T R)
  (he:∀ τ S,Inv n τ S→t.ok S∧N τ S):wpS (forL t g b (rngI 0 (n:Int)) τ S) N T R:=by
 rw [rngI_0]
 refine forM_wp (fun (i:Nat) => PV.int (i:Int)) (fun dn τ S => Inv dn.length τ S) h0 ?_ ?_
 ·intro dn x rs τ S J e h hJ
  obtain ⟨rfl,hl⟩:=range_split e
  exact hs _ τ S J hl h fun τ' S' k => hJ τ' S' (by simpa using k)
 ·intro τ S h
  exact he τ S (by simpa using h)
mutual
def Sn (S:Sto):PV→PV→Prop
 | .non,p => p = .non
 | .bl b,p => p = .bl b
 | .int i,p => p = .int i
 | .str x,p => p = .str x
 | .tup ds,p => ∃ ps,p = .tup ps∧SnL S ds ps
 | .fls ds,p => ∃ l ps,p = .loc l∧S[l]? = some (.lst ps)∧SnL S ds ps
 | .loc _,_ => False
 | .fn _ _ _,_ => False
def SnL (S:Sto):List PV→List PV→Prop
 | [],ps => ps = []
 | d :: ds,ps => ∃ q qs,ps = q :: qs∧Sn S d q∧SnL S ds qs
end
mutual
def AD:Nat→PV→Prop
 | _,.non => True
 | _,.bl _ => True
 | _,.int _ => True
 | _,.str _ => True
 | 0,_ => False
 | n + 1,.tup xs => xs.length ≤ 16777216∧ADL n xs
 | n + 1,.fls xs => xs.length ≤ 16777216∧ADL n xs
 | _,_ => False
def ADL:Nat→List PV→Prop
 | _,[] => True
 | n,x :: xs => AD n x∧ADL n xs
end
theorem ADL_iff {n:Nat}:∀ {xs:List PV},ADL n xs↔∀ x ∈ xs,AD n x
 | [] => by simp [ADL]
 | x :: xs => by simp [ADL,ADL_iff (xs:=xs)]
theorem SnL.length {S:Sto}:∀ {ds ps:List PV},SnL S ds ps→ps.length = ds.length
 | [],ps,h => by have h:ps = []:=h; subst h; rfl
 | d :: ds,ps,h => by
  obtain ⟨q,qs,rfl,_,h2⟩:=h
  simp [SnL.length h2]
theorem SnL.get {S:Sto}:∀ {ds ps:List PV} {i:Nat} {p:PV},SnL S ds ps→ps[i]? = some p→∃ d,ds[i]? = some d∧Sn S d p
 | [],ps,i,p,h,e => by have h:ps = []:=h; subst h; simp at e
 | d :: ds,ps,0,p,h,e => by
  obtain ⟨q,qs,rfl,h1,h2⟩:=h
  simp at e; subst e
  exact ⟨d,rfl,h1⟩
 | d :: ds,ps,i + 1,p,h,e => by
  obtain ⟨q,qs,rfl,h1,h2⟩:=h
  obtain ⟨d',e1,e2⟩:=SnL.get (i:=i) h2 (by simpa using e)
  exact ⟨d',by simpa using e1,e2⟩
mutual
theorem Sn.keep {S S':Sto} (k:Keep [] S S'):∀ (d p:PV),Sn S d p→Sn S' d p
 | .non,_,h => h
 | .bl _,_,h => h
 | .int _,_,h => h
 | .str _,_,h => h
 | .tup ds,p,h => by
  obtain ⟨ps,h1,h2⟩:=h
  exact ⟨ps,h1,SnL.keep k ds ps h2⟩
 | .fls ds,p,h => by
  obtain ⟨l,ps,h1,h2,h3⟩:=h
  exact ⟨l,ps,h1,k.get h2 (by simp),SnL.keep k ds ps h3⟩
 | .loc _,_,h => h
 | .fn _ _ _,_,h => h
theorem SnL.keep {S S':Sto} (k:Keep [] S S'):∀ (ds ps:List PV),SnL S ds ps→SnL S' ds ps
 | [],_,h => h
 | d :: ds,ps,h => by
  obtain ⟨q,qs,h1,h2,h3⟩:=h
  exact ⟨q,qs,h1,Sn.keep k d q h2,SnL.keep k ds qs h3⟩
end
mutual
theorem Pl.sn {S:Sto}:∀ (n:Nat) (p:PV),Pl n p→Sn S p p
 | _,.non,_ => rfl
 | _,.int _,_ => rfl
 | _,.str _,_ => rfl
 | 0,.tup _,h => by simp [Pl] at h
 | n + 1,.tup xs,h => ⟨xs,rfl,PlL.sn n xs (by simpa [Pl] using h)⟩
 | n,.bl _,h => by cases n <;> simp [Pl] at h
 | n,.fls _,h => by cases n <;> simp [Pl] at h
 | n,.loc _,h => by cases n <;> simp [Pl] at h
 | n,.fn _ _ _,h => by cases n <;> simp [Pl] at h
theorem PlL.sn {S:Sto}:∀ (n:Nat) (xs:List PV),PlL n xs→SnL S xs xs
 | _,[],_ => rfl
 | n,x :: xs,h => by
  have h':Pl n x∧PlL n xs:=by simpa [PlL] using h
  exact ⟨x,xs,rfl,Pl.sn n x h'.1,PlL.sn n xs h'.2⟩
end
theorem atI_get {β : Type} {xs:List β} {i:Nat} (h:i < xs.length):atI xs (i:Int) = xs[i]?:=by
 unfold atI ixN
 simp [show ((i:Int) < xs.length) by omega]
@[simp] theorem isi_bool_non {S:Sto}:isiP "bool" .non S = some false:=by rfl
@[simp] theorem isi_int_non {S:Sto}:isiP "int" .non S = some false:=by rfl
@[simp] theorem isi_str_non {S:Sto}:isiP "str" .non S = some false:=by rfl
@[simp] theorem isi_list_non {S:Sto}:isiP "list" .non S = some false:=by rfl
@[simp] theorem isi_tuple_non {S:Sto}:isiP "tuple" .non S = some false:=by rfl
theorem dict_wp {P:PV→Sto→Prop} {R:Str→PV→Sto→Prop} {τ : En} {S:Sto} (h:∀ n S',S'[n]? = some (.dct [])→Keep [] S S'→S.length ≤ n→P (.loc n) S'):wp (dictM τ S) P R:=by
 rw [zq6]; exact alloc_wp h
theorem Oth.put {od:Nat} {hs:List Hd} {S:Sto} {f:Str} {ps:List Str} (o:Oth od hs S) (hl:hs.length < 1000) :
  ∃ kvs:List (Key × PV),S[od]? = some (.dct kvs)∧kvs.length < 16777216∧(∀ v,valP kvs (.inr f) = some v→Oth od (hs ++ [(f,ps)]) S)∧(valP kvs (.inr f) = none→Oth od (hs ++ [(f,ps)]) (S.set od (.dct (putP kvs (.inr f) (.tup (stL ps)))))):=by
 obtain ⟨kvs,h1,h2,h3⟩:=o.ex
 refine ⟨kvs,h1,by omega,fun v hv => ⟨kvs,h1,by simp; omega,fun g => ?_⟩,fun hv => ⟨_,set_get h1,by rw [putP_none hv]; simp; omega,fun g => ?_⟩⟩
 ·rw [firstH_app,h3 g]
  by_cases hg:g = f
  ·subst hg
   rw [h3 g] at hv
   cases q:firstH hs g with
   | none => rw [q] at hv; simp at hv
   | some ps => simp
  ·have:firstH [(f,ps)] g = none:=by simp [firstH,Ne.symm hg]
   rw [this]; simp
 ·rw [putP_none hv,valP_app,firstH_app,h3 g]
  by_cases hg:g = f
  ·subst hg
   rw [h3 g] at hv
   cases q:firstH hs g with
   | none => simp [valP,firstH]
   | some ps => rw [q] at hv; simp at hv
  ·have h1:firstH [(f,ps)] g = none:=by simp [firstH,Ne.symm hg]
   have h2:valP [((.inr f:Key),PV.tup (stL ps))] (.inr g) = none:=by simp [valP,Ne.symm hg]
   rw [h1,h2]; simp
end PL
namespace PL
open PySem PySem.Spec PyProof.Rows L2
@[simp] theorem ofS_beq (a b:String):(Str.ofString a == Str.ofString b) = (a == b):=by
 by_cases h:a = b
 ·simp [h]
 ·have h1:Str.ofString a ≠ Str.ofString b:=fun z => h (ofString_inj.mp z)
  have e1:(Str.ofString a == Str.ofString b) = false:=by simpa using h1
  have e2:(a == b) = false:=by simpa using h
  rw [e1,e2]
def PrgAt (l:Nat) (ds:List Df) (S:Sto):Prop:=∃ n,S[l]? = some (.ins "Program" [(Str.ofString "definitions_kept",.loc n)])∧S[n]? = some (.lst (ds.map Df.pv))
theorem PrgAt.keep {l:Nat} {ds:List Df} {S S':Sto} (p:PrgAt l ds S) (k:Keep [] S S'):PrgAt l ds S':=by
 obtain ⟨n,h1,h2⟩:=p
 exact ⟨n,k.get h1 (by simp),k.get h2 (by simp)⟩
theorem Lw.ok {x:Str} (h:Lw x):x.cps.all (· < 0x110000) = true:=by
 have:=h.plain 0
 simpa [Pl] using this
def Fair (x:Str):Prop:=x.cps.all (· < 0x110000) = true
theorem Fair.pl {x:Str} (h:Fair x) (n:Nat):Pl n (.str x):=by cases n <;> exact h
theorem Nm.fair {x:Str} (h:Nm x):Fair x:=h.l.ok
theorem fairL {n:Nat} {xs:List Str} (h:∀ x ∈ xs,Fair x):PlL n (stL xs):=PlL_iff.mpr fun p hp => by
 obtain ⟨x,hx,rfl⟩:=List.mem_map.mp hp
 exact (h x hx).pl n
theorem ofS_fair (s:String) (h:(Str.ofString s).cps.all (· < 0x110000) = true:=by decide +kernel):Fair (Str.ofString s):=h
def Vl.fair:Vl→Prop
 | .num _ => True
 | .copy x => Fair x
 | .add x y => Fair x∧Fair y
 | .read => True
 | .clean x => Fair x
 | .call f xs => Fair f∧∀ x ∈ xs,Fair x
mutual
def Rw.fair:Rw→Prop
 | .set x v => Fair x∧v.fair
 | .iff x a b => Fair x∧Rw.fairs a∧Rw.fairs b
 | .send x => Fair x
 | .give x => Fair x
def Rw.fairs:List Rw→Prop
 | [] => True
 | r :: rs => r.fair∧Rw.fairs rs
end
theorem fairs_iff:∀ {rs:List Rw},Rw.fairs rs↔∀ r ∈ rs,r.fair
 | [] => by simp [Rw.fairs]
 | r :: rs => by simp [Rw.fairs,fairs_iff (rs:=rs)]
theorem Vl.pl {v:Vl} (h:v.fair):Pl 2 v.pv:=by
 cases v with
 | num i => simp only [Vl.pv,Pl,PlL]; exact ⟨ofS_fair "num",trivial,trivial⟩
 | read => simp only [Vl.pv,Pl,PlL]; exact ⟨ofS_fair "read",trivial⟩
 | copy x => simp only [Vl.pv,Pl,PlL]; exact ⟨ofS_fair "copy",h,trivial⟩
 | clean x => simp only [Vl.pv,Pl,PlL]; exact ⟨ofS_fair "clean",h,trivial⟩
 | add x y => simp only [Vl.pv,Pl,PlL]; exact ⟨ofS_fair "add",h.1,h.2,trivial⟩
 | call f xs => simp only [Vl.pv,Pl,PlL]; exact ⟨ofS_fair "call",h.1,fairL h.2,trivial⟩
theorem PlL.le {n m:Nat} {xs:List PV} (h:PlL n xs) (k:n ≤ m):PlL m xs:=PlL_iff.mpr fun x hx => (PlL_iff.mp h x hx).le k
mutual
theorem Rw.pl:∀ {r:Rw},r.fair→∀ n,2 * r.dep + 1 ≤ n→Pl n r.pv
 | .set x v,h,n,hn => by
  simp only [Rw.dep] at hn
  obtain ⟨n,rfl⟩:∃ m,n = m + 3:=⟨n - 3,by omega⟩
  simp only [Rw.pv,Pl,PlL]
  exact ⟨ofS_fair "set",h.1,(Vl.pl h.2).le (by omega),trivial⟩
 | .send x,h,n,hn => by
  simp only [Rw.dep] at hn
  obtain ⟨n,rfl⟩:∃ m,n = m + 3:=⟨n - 3,by omega⟩
  simp only [Rw.pv,Pl,PlL]
  exact ⟨ofS_fair "send",h,trivial⟩
 | .give x,h,n,hn => by
  simp only [Rw.dep] at hn
  obtain ⟨n,rfl⟩:∃ m,n = m + 3:=⟨n - 3,by omega⟩
  simp only [Rw.pv,Pl,PlL]
  exact ⟨ofS_fair "give",h,trivial⟩
 | .iff x a b,h,n,hn => by
  simp only [Rw.dep] at hn
  obtain ⟨n,rfl⟩:∃ m,n = m + 3:=⟨n - 3,by omega⟩
  simp only [Rw.pv,Pl,PlL]
  exact ⟨ofS_fair "if",h.1,Rw.pls h.2.1 _ (by omega),Rw.pls h.2.2 _ (by omega),trivial⟩
theorem Rw.pls:∀ {rs:List Rw},Rw.fairs rs→∀ n,2 * Rw.deps rs + 1 ≤ n→PlL n (Rw.pvs rs)
 | [],_,n,_ => by simp [Rw.pvs,PlL]
 | r :: rs,h,n,hn => by
  simp only [Rw.deps] at hn
  exact ⟨Rw.pl h.1 n (by omega),Rw.pls h.2 n (by omega)⟩
end
theorem Vl.fair_of {ns:List Str} {hs:List Hd} {v:Vl} (hn:∀ x ∈ ns,Fair x) (hh:∀ h ∈ hs,Fair h.1) (h:v.ok ns hs):v.fair:=by
 cases v with
 | num i => trivial
 | read => trivial
 | copy x => exact hn x h
 | clean x => exact hn x h
 | add x y => exact ⟨hn x h.1,hn y h.2⟩
 | call f xs => obtain ⟨h1,ps,h2,_⟩:=h; exact ⟨hh _ h2,fun x hx => hn x (h1 x hx)⟩
mutual
theorem Rw.fair_of {ns:List Str} {hs:List Hd} (hn:∀ x ∈ ns,Fair x) (hh:∀ h ∈ hs,Fair h.1):∀ {r:Rw},r.ok ns hs→r.fair
 | .set x v,h => ⟨hn x h.1,Vl.fair_of hn hh h.2⟩
 | .send x,h => hn x h
 | .give x,h => hn x h
 | .iff x a b,h => ⟨hn x h.1,Rw.fairs_of hn hh h.2.1,Rw.fairs_of hn hh h.2.2⟩
theorem Rw.fairs_of {ns:List Str} {hs:List Hd} (hn:∀ x ∈ ns,Fair x) (hh:∀ h ∈ hs,Fair h.1):∀ {rs:List Rw},Rw.oks ns hs rs→Rw.fairs rs
 | [],_ => trivial
 | r :: rs,h => ⟨Rw.fair_of hn hh h.1,Rw.fairs_of hn hh h.2⟩
end
def Df.fair (d:Df):Prop:=Fair d.1∧(∀ x ∈ d.2.1,Fair x)∧Rw.fairs d.2.2
theorem Df.pl {d:Df} (h:d.fair) {n:Nat} (hn:2 * Rw.deps d.2.2 + 3 ≤ n):Pl n d.pv:=by
 obtain ⟨n,rfl⟩:∃ m,n = m + 2:=⟨n - 2,by omega⟩
 simp only [Df.pv,Pl,PlL]
 exact ⟨h.1,fairL h.2.1,Rw.pls h.2.2 _ (by omega),trivial⟩
theorem Prg.fair {ds:List Df} (p:Prg ds):∀ d ∈ ds,d.fair:=by
 intro d hd
 have hh:d.hd ∈ ds.map Df.hd:=List.mem_map.mpr ⟨d,hd,rfl⟩
 obtain ⟨ns,h1,h2⟩:=p.ok d hd
 exact ⟨(p.hd.nm _ hh).fair,fun x hx => (p.hd.pn _ hh x hx).fair,Rw.fairs_of (fun x hx => (h1 x hx).fair) (fun h hm => (p.hd.nm h hm).fair) h2⟩
theorem dfs_pl {ds:List Df} {n m:Nat} (hf:∀ d ∈ ds,d.fair) (hd:∀ d ∈ ds,Rw.deps d.2.2 ≤ m) (hn:2 * m + 3 ≤ n):PlL n (ds.map Df.pv):=PlL_iff.mpr fun p hp => by
 obtain ⟨d,hm,rfl⟩:=List.mem_map.mp hp
 have:=hd d hm
 exact Df.pl (hf d hm) (by omega)
mutual
def Wd:Nat→PV→Prop
 | m,.tup xs => xs.length ≤ m∧WdL m xs
 | m,.fls xs => xs.length ≤ m∧WdL m xs
 | _,_ => True
def WdL:Nat→List PV→Prop
 | _,[] => True
 | m,x :: xs => Wd m x∧WdL m xs
end
theorem WdL_iff {n:Nat}:∀ {xs:List PV},WdL n xs↔∀ x ∈ xs,Wd n x
 | [] => by simp [WdL]
 | x :: xs => by simp [WdL,WdL_iff (xs:=xs)]
mutual
theorem Pl.ad:∀ (n:Nat) (p:PV),Pl n p→Wd 16777216 p→AD n p
 | _,.non,_,_ => by simp [AD]
 | _,.int _,_,_ => by simp [AD]
 | _,.str _,_,_ => by simp [AD]
 | 0,.tup _,h,_ => by simp [Pl] at h
 | n + 1,.tup xs,h,w => by
  have w:xs.length ≤ 16777216∧WdL 16777216 xs:=w
  exact ⟨w.1,PlL.ad n xs h w.2⟩
 | n,.bl _,h,_ => by cases n <;> simp [Pl] at h
 | n,.fls _,h,_ => by cases n <;> simp [Pl] at h
 | n,.loc _,h,_ => by cases n <;> simp [Pl] at h
 | n,.fn _ _ _,h,_ => by cases n <;> simp [Pl] at h
theorem PlL.ad:∀ (n:Nat) (xs:List PV),PlL n xs→WdL 16777216 xs→ADL n xs
 | _,[],_,_ => by simp [ADL]
 | n,x :: xs,h,w => by
  have h':Pl n x∧PlL n xs:=h
  have w':Wd 16777216 x∧WdL 16777216 xs:=w
  exact ⟨Pl.ad n x h'.1 w'.1,PlL.ad n xs h'.2 w'.2⟩
end
theorem wd_stL {m:Nat} (xs:List Str):WdL m (stL xs):=WdL_iff.mpr fun p hp => by
 obtain ⟨x,hx,rfl⟩:=List.mem_map.mp hp
 simp [Wd]
theorem Vl.wd {v:Vl} {m:Nat} (h:v.asked.length ≤ m) (hm:5 ≤ m):Wd m v.pv:=by
 cases v with
 | call f xs => simp only [Vl.pv,Wd,WdL]; exact ⟨by simp; omega,trivial,trivial,⟨by simpa [stL,Vl.asked] using h,wd_stL _⟩,trivial⟩
 | _ => simp only [Vl.pv,Wd,WdL]; exact ⟨by simp; omega,by simp⟩
mutual
theorem Rw.wd {m:Nat} (hm:5 ≤ m):∀ {r:Rw},r.each.length ≤ m→(∀ q ∈ r.each,q.ins.length ≤ m)→Wd m r.pv
 | .set x v,_,h => by
  have:=h (.set x v) (by simp [Rw.each])
  simp only [Rw.pv,Wd,WdL]
  exact ⟨by simp; omega,trivial,trivial,Vl.wd (by simp [Rw.ins] at this; omega) hm,trivial⟩
 | .send x,_,h => by simp only [Rw.pv,Wd,WdL]; exact ⟨by simp; omega,by simp⟩
 | .give x,_,h => by simp only [Rw.pv,Wd,WdL]; exact ⟨by simp; omega,by simp⟩
 | .iff x a b,hl,h => by
  simp only [Rw.each,List.length_cons,List.length_append] at hl
  simp only [Rw.each,List.mem_cons,List.mem_append] at h
  have la:=len_eachs a
  have lb:=len_eachs b
  simp only [Rw.pv,Wd,WdL]
  exact ⟨by simp; omega,trivial,trivial,⟨by rw [pvs_map,List.length_map]; omega,Rw.wds hm (by omega) fun q hq => h q (.inr (.inl hq))⟩,⟨by rw [pvs_map,List.length_map]; omega,Rw.wds hm (by omega) fun q hq => h q (.inr (.inr hq))⟩,trivial⟩
theorem Rw.wds {m:Nat} (hm:5 ≤ m):∀ {rs:List Rw},(Rw.eachs rs).length ≤ m→(∀ q ∈ Rw.eachs rs,q.ins.length ≤ m)→WdL m (Rw.pvs rs)
 | [],_,_ => trivial
 | r :: rs,hl,h => by
  simp only [Rw.eachs,List.length_append] at hl
  simp only [Rw.eachs,List.mem_append] at h
  exact ⟨Rw.wd hm (by omega) fun q hq => h q (.inl hq),Rw.wds hm (by omega) fun q hq => h q (.inr hq)⟩
end
structure Sized (ds:List Df):Prop where
 len:ds.length < 1000
 dep:∀ d ∈ ds,Rw.deps d.2.2 < 6
 cnt:∀ d ∈ ds,(Rw.eachs d.2.2).length ≤ 1000
 ins:∀ d ∈ ds,∀ r ∈ Rw.eachs d.2.2,r.ins.length ≤ 1000
 par:∀ d ∈ ds,d.2.1.length ≤ 1000
 nms:∀ d ∈ ds,∀ x ∈ namesL d,x.length ≤ 1000
 own:∀ d ∈ ds,d.1.length ≤ 1000
theorem Df.wd {ds:List Df} (z:Sized ds) {d:Df} (hd:d ∈ ds):Wd 16777216 d.pv:=by
 have h1:=z.cnt d hd
 have h2:=len_eachs d.2.2
 have h3:=z.par d hd
 simp only [Df.pv,Wd,WdL]
 exact ⟨by simp,trivial,⟨by simp [stL]; omega,wd_stL _⟩,⟨by rw [pvs_map,List.length_map]; omega,Rw.wds (by omega) (by omega) fun q hq => by have:=z.ins d hd q hq; omega⟩,trivial⟩
theorem Prg.sized {ds:List Df} (p:Prg ds):Sized ds:=by
 have hl:ds.length ≤ 6:=by have:=p.hd.len; simpa using this
 refine ⟨by omega,fun d hd => by have:=p.dep d hd; omega,fun d hd => by have:=p.cnt d hd; omega,fun d hd r hr => ?_,fun d hd => ?_,fun d hd x hx => ?_,fun d hd => ?_⟩
 ·obtain ⟨ns,h1,h2⟩:=p.ok d hd
  have:=ins_len (eachs_ok _ h2 r hr) p.hd.pl
  omega
 ·have:=p.hd.pl d.hd (List.mem_map.mpr ⟨d,hd,rfl⟩)
  show d.2.1.length ≤ 1000
  have:d.2.1.length ≤ 4:=this
  omega
 ·have:=(p.sound d hd).2
  unfold soundB at this
  simp only [Bool.and_eq_true,List.all_eq_true] at this
  have:=(nmB_iff.mp (this.1.1 x hx)).q
  omega
 ·have:=(nmB_iff.mp (p.sound d hd).1).q
  omega
theorem Prg.main {ds:List Df} (p:Prg ds):firstH (ds.map Df.hd) (Str.ofString "main") = some []:=firstH_mem p.hd.nd p.hd.main
theorem Prg.nd {ds:List Df} (p:Prg ds):(ds.map (·.1)).Nodup:=by
 have:=p.hd.nd
 rw [List.map_map] at this
 exact this
end PL
namespace PL
open PySem PySem.Spec PyProof.Rows L2
section
variable {P:PV→Sto→Prop} {R:Str→PV→Sto→Prop} {S:Sto} {xs:List PV} {kvs:List (Key × PV)} {l:Nat}
end
@[simp] theorem intP_bl (b:Bool) (S:Sto):intP (.bl b) S = some (.int (if b then 1 else 0),S):=(rfl)
def PlB (n:Nat) (p:PV):Prop:=Pl n p ∨ ∃ b,p = .bl b
theorem PlB.toD {n:Nat} {p:PV} (h:PlB n p):∃ d,toD p = some d∧d.canLay0 = true∧d.depth ≤ n:=by
 rcases h with h | ⟨b,rfl⟩
 ·exact Pl.toD n p h
 ·exact ⟨_,rfl,rfl,Nat.zero_le _⟩
theorem PlB.toDL {n:Nat}:∀ {xs:List PV},(∀ x ∈ xs,PlB n x)→∃ ds,PL.toDL xs = some ds∧PyData.canLayAll0 ds = true∧PyData.depthAll ds ≤ n∧ds.length = xs.length
 | [],_ => ⟨[],rfl,rfl,Nat.zero_le _,rfl⟩
 | x :: xs,h => by
  obtain ⟨d,h1,h2,h3⟩:=(h x (by simp)).toD
  obtain ⟨ds,h4,h5,h6,h7⟩:=PlB.toDL (xs:=xs) fun y hy => h y (by simp [hy])
  exact ⟨d :: ds,by simp [PL.toDL,h1,h4],by simp [PyData.canLayAll0,h2,h5],by show max d.depth (PyData.depthAll ds) ≤ n; omega,by simp [h7]⟩
end PL
namespace PL
open PySem PySem.Spec PyProof.Rows L2
def Vl.All (p:Str→Prop):Vl→Prop
 | .num _ => True
 | .copy x => p x
 | .add x y => p x∧p y
 | .read => True
 | .clean x => p x
 | .call g xs => p g∧∀ x ∈ xs,p x
mutual
def Rw.All (p:Str→Prop):Rw→Prop
 | .set x v => p x∧v.All p
 | .iff x a b => p x∧Rw.Alls p a∧Rw.Alls p b
 | .send x => p x
 | .give x => p x
def Rw.Alls (p:Str→Prop):List Rw→Prop
 | [] => True
 | r :: rs => r.All p∧Rw.Alls p rs
end
theorem Alls_iff {p:Str→Prop}:∀ {rs:List Rw},Rw.Alls p rs↔∀ r ∈ rs,r.All p
 | [] => by simp [Rw.Alls]
 | r :: rs => by simp [Rw.Alls,Alls_iff (rs:=rs)]
theorem Vl.All_of {p:Str→Prop} {ns:List Str} {hs:List Hd} {v:Vl} (hn:∀ x ∈ ns,p x) (hh:∀ h ∈ hs,p h.1) (h:v.ok ns hs):v.All p:=by
 cases v with
 | num i => trivial
 | read => trivial
 | copy x => exact hn x h
 | clean x => exact hn x h
 | add x y => exact ⟨hn x h.1,hn y h.2⟩
 | call f xs => obtain ⟨h1,ps,h2,_⟩:=h; exact ⟨hh _ h2,fun x hx => hn x (h1 x hx)⟩
mutual
theorem Rw.All_of {p:Str→Prop} {ns:List Str} {hs:List Hd} (hn:∀ x ∈ ns,p x) (hh:∀ h ∈ hs,p h.1):∀ {r:Rw},r.ok ns hs→r.All p
 | .set x v,h => ⟨hn x h.1,Vl.All_of hn hh h.2⟩
 | .send x,h => hn x h
 | .give x,h => hn x h
 | .iff x a b,h => ⟨hn x h.1,Rw.Alls_of hn hh h.2.1,Rw.Alls_of hn hh h.2.2⟩
theorem Rw.Alls_of {p:Str→Prop} {ns:List Str} {hs:List Hd} (hn:∀ x ∈ ns,p x) (hh:∀ h ∈ hs,p h.1):∀ {rs:List Rw},Rw.oks ns hs rs→Rw.Alls p rs
 | [],_ => trivial
 | r :: rs,h => ⟨Rw.All_of hn hh h.1,Rw.Alls_of hn hh h.2⟩
end
mutual
theorem Rw.All_fair:∀ {r:Rw},r.All Nm→r.fair
 | .set x v,h => ⟨h.1.fair,by
   have:=h.2
   cases v with
   | num i => trivial
   | read => trivial
   | copy x => exact Nm.fair this
   | clean x => exact Nm.fair this
   | add x y => exact ⟨this.1.fair,this.2.fair⟩
   | call f xs => exact ⟨this.1.fair,fun x hx => (this.2 x hx).fair⟩⟩
 | .send x,h => Nm.fair h
 | .give x,h => Nm.fair h
 | .iff x a b,h => ⟨h.1.fair,Rw.Alls_fair h.2.1,Rw.Alls_fair h.2.2⟩
theorem Rw.Alls_fair:∀ {rs:List Rw},Rw.Alls Nm rs→Rw.fairs rs
 | [],_ => trivial
 | r :: rs,h => ⟨Rw.All_fair h.1,Rw.Alls_fair h.2⟩
end
mutual
theorem each_All {p:Str→Prop}:∀ (r:Rw),r.All p→∀ q ∈ r.each,q.All p
 | .set x v,h,q,hq => by simp [Rw.each] at hq; subst hq; exact h
 | .send x,h,q,hq => by simp [Rw.each] at hq; subst hq; exact h
 | .give x,h,q,hq => by simp [Rw.each] at hq; subst hq; exact h
 | .iff x a b,h,q,hq => by
  simp only [Rw.each,List.mem_cons,List.mem_append] at hq
  rcases hq with rfl | hq | hq
  ·exact h
  ·exact eachs_All a h.2.1 q hq
  ·exact eachs_All b h.2.2 q hq
theorem eachs_All {p:Str→Prop}:∀ (rs:List Rw),Rw.Alls p rs→∀ q ∈ Rw.eachs rs,q.All p
 | [],_,q,hq => by simp [Rw.eachs] at hq
 | r :: rs,h,q,hq => by
  simp only [Rw.eachs,List.mem_append] at hq
  rcases hq with hq | hq
  ·exact each_All r h.1 q hq
  ·exact eachs_All rs h.2 q hq
end
theorem ins_All {p:Str→Prop} {r:Rw} (h:r.All p):∀ x ∈ r.ins,p x:=by
 intro y hy
 cases r with
 | set x v =>
  simp only [Rw.ins,List.mem_append,List.mem_singleton] at hy
  rcases hy with hy | rfl
  ·have h2:=h.2
   cases v with
   | num _ => simp [Vl.asked] at hy
   | read => simp [Vl.asked] at hy
   | copy z => simp [Vl.asked] at hy; subst hy; exact h2
   | clean z => simp [Vl.asked] at hy; subst hy; exact h2
   | add z w => simp [Vl.asked] at hy; rcases hy with rfl | rfl; exact h2.1; exact h2.2
   | call f xs => exact h2.2 y hy
  ·exact h.1
 | iff x a b => simp [Rw.ins] at hy; subst hy; exact h.1
 | send x => simp [Rw.ins] at hy; subst hy; exact h
 | give x => simp [Rw.ins] at hy; subst hy; exact h
structure NP (ds:List Df):Prop where
 nd:(ds.map (·.1)).Nodup
 nm:∀ d ∈ ds,Nm d.1∧(∀ x ∈ d.2.1,Nm x)∧Rw.Alls Nm d.2.2
 len:ds.length ≤ 6
 dep:∀ d ∈ ds,Rw.deps d.2.2 ≤ 4
 cnt:∀ d ∈ ds,(Rw.eachs d.2.2).length ≤ 60
 par:∀ d ∈ ds,d.2.1.length ≤ 4
 ins:∀ d ∈ ds,∀ r ∈ Rw.eachs d.2.2,r.ins.length ≤ 5
theorem Prg.np {ds:List Df} (p:Prg ds):NP ds where
 nd:=p.nd
 nm:=fun d hd => by
  have hh:d.hd ∈ ds.map Df.hd:=List.mem_map.mpr ⟨d,hd,rfl⟩
  obtain ⟨ns,h1,h2⟩:=p.ok d hd
  exact ⟨p.hd.nm _ hh,p.hd.pn _ hh,Rw.Alls_of h1 p.hd.nm h2⟩
 len:=by have:=p.hd.len; simpa using this
 dep:=p.dep
 cnt:=p.cnt
 par:=fun d hd => p.hd.pl d.hd (List.mem_map.mpr ⟨d,hd,rfl⟩)
 ins:=fun d hd r hr => by
  obtain ⟨ns,h1,h2⟩:=p.ok d hd
  exact ins_len (eachs_ok _ h2 r hr) p.hd.pl
theorem NP.names {ds:List Df} (p:NP ds):∀ d ∈ ds,∀ x ∈ namesL d,Nm x:=by
 intro d hd x hx
 rcases List.mem_append.mp hx with hx | hx
 ·obtain ⟨r,hr,hx⟩:=List.mem_flatMap.mp hx
  exact ins_All (eachs_All _ (p.nm d hd).2.2 r hr) x hx
 ·exact (p.nm d hd).2.1 x hx
theorem NP.sized {ds:List Df} (p:NP ds):Sized ds where
 len:=by have:=p.len; omega
 dep:=fun d hd => by have:=p.dep d hd; omega
 cnt:=fun d hd => by have:=p.cnt d hd; omega
 ins:=fun d hd r hr => by have:=p.ins d hd r hr; omega
 par:=fun d hd => by have:=p.par d hd; omega
 nms:=fun d hd x hx => by have:=(p.names d hd x hx).q; omega
 own:=fun d hd => by have:=(p.nm d hd).1.q; omega
theorem NP.fair {ds:List Df} (p:NP ds):∀ d ∈ ds,d.fair:=fun d hd => ⟨(p.nm d hd).1.fair,fun x hx => ((p.nm d hd).2.1 x hx).fair,Rw.Alls_fair (p.nm d hd).2.2⟩
theorem NP.sub {ds es:List Df} (p:NP ds) (h:es.Sublist ds):NP es where
 nd:=(h.map (·.1)).nodup p.nd
 nm:=fun d hd => p.nm d (h.subset hd)
 len:=Nat.le_trans h.length_le p.len
 dep:=fun d hd => p.dep d (h.subset hd)
 cnt:=fun d hd => p.cnt d (h.subset hd)
 par:=fun d hd => p.par d (h.subset hd)
 ins:=fun d hd => p.ins d (h.subset hd)
theorem Rw.dep_pos (r:Rw):1 ≤ r.dep:=by cases r <;> simp [Rw.dep] <;> omega
theorem cut_drop {xs:List PV} (k:Nat):cutP xs (some (k:Int)) none = xs.drop k:=by
 unfold cutP
 rw [HT.sIx_nat,HT.sIx_none]
 rcases Nat.le_total k xs.length with h | h
 ·rw [Nat.min_eq_left h,List.take_of_length_le (by simp)]
 ·rw [Nat.min_eq_right h,List.drop_of_length_le (Nat.le_refl _),List.drop_of_length_le h]; simp
end PL
namespace PL
open PySem PySem.Spec PyProof.Rows L2
section
variable {prog:Program} {w:World} {A:Around} {E:Value→Shared→Prop} {s:Shared} {K:PySem.W.Frag} {x C L f:Addr} {ox:Obj} {od:Option Obj} {b tb:Value} {h₀ : Heap} {m:Str→Option Value}
theorem ne_entry {Q:Fin→Shared→Prop} (hu:A.units < cLine) (X:K.In s.heap) (I:PySem.W.InstAt s.heap x ox C od) (hs:PySem.W.findIn K (.ref C) "__eq__" = some (some (.ref f))) (hf:PySem.W.isFn K (.ref f) = true)
  (h:wpAny (model prog w) A (call (.ref f) [.ref x,b]) (fun v s' => ∃ c,v = .bool c∧Q (.done (.ret (.bool (!c)))) s') E s):wpAny (model prog w) A (Builtin.«object.__ne__» ⟨[.ref x,b],[]⟩) Q E s:=by
 unfold Builtin.«object.__ne__»
 repeat (first
  | with_reducible refine wpAny_cRoomFor hu ?_
  | (refine wpAny_bind (m:=callSpecialIfBound? (.ref x) (Str.ofString "__eq__") [b])
            (PySem.W.ifBound_K X I hs hf (wpAny_mono h (fun r s' hr => by
             obtain ⟨c,rfl,hq⟩:=hr
             repeat (first | exact hq | exact wpAny_pure hq | exact wpAny_truthy_bool hq | (refine wpAny_bind (m:=truthy (.bool _)) (wpAny_truthy_bool ?_)) | wp_step)) fun _ _ e => e)))
  | wp_step)
theorem ifBound_ne {M:Model} {args:List Value} {Q:Option Value→Shared→Prop} (X:K.In s.heap) (I:PySem.W.InstAt s.heap x ox C od) (hs:PySem.W.findIn K (.ref C) "__ne__" = some (some (.builtin "object.__ne__")))
  (h:wpAny M A (call (.builtin "object.__ne__") (.ref x :: args)) (fun v => Q (some v)) E s):wpAny M A (callSpecialIfBound? (.ref x) "__ne__" args) Q E s:=by
 simp only [callSpecialIfBound?,bindSpecialIfBound?]
 refine wpAny_holding (wpAny_bind (wpAny_bind (wpAny_bind (I.type.here ((PySem.W.looks_findIn X hs).here ?_)))))
 refine wpAny_bind (wpAny_askSetting (wpAny_ite ?_))
 have fin:wpAny M A (call (.builtin "object.__ne__") ([.ref x] ++ args) >>= fun v => pure (some v)) Q E s:=wpAny_bind (wpAny_mono h (fun v s' h' => wpAny_pure h') fun _ _ h' => h')
 split
 ·exact wpAny_bind (wpAny_of_eq (F.cmp_object.ne.bind _) (wpAny_pure (by exact fin)))
 ·exact wpAny_tryCatch (wpAny_bind (wpAny_of_eq (F.cmp_object.ne.bind _) (wpAny_pure (by exact fin))))
theorem ne_K {Q:Value→Shared→Prop} (hu:A.units + 1 < cLine) (F0:Fr h₀ L s.heap m) (X₀ : K.In h₀) (I:PySem.W.InstAt s.heap x ox C od) (hb:PySem.W.Looks (model prog w) s.heap (typeOf b) tb) (hn:PySem.W.notFirst K C tb = true)
  (hm:PySem.W.mroIn K C (.type "object") = some true) (hne:PySem.W.findIn K (.ref C) "__ne__" = some (some (.builtin "object.__ne__"))) (hs:PySem.W.findIn K (.ref C) "__eq__" = some (some (.ref f))) (hf:PySem.W.isFn K (.ref f) = true)
  (h:wpAny (model prog w) A.in1 (call (.ref f) [.ref x,b]) (fun v s' => ∃ c,v = .bool c∧Q (.bool (!c)) s') E s):wpAny (model prog w) A (richCompare .NotEq (.ref x) b) Q E s:=by
 have X:=X₀.keeps F0.keep
 have one:wpAny (model prog w) A (tryCompare (.ref x) "__ne__" b) (fun r s' => ∃ v,r = some v∧Q v s') E s:=by
  unfold tryCompare
  refine wpAny_bind (ifBound_ne X I hne (wpAny_call (codeAny_call_builtin F.cmp_object.ne.plain F.cmpEntry_ne (PySem.W.check_slot F.cmpKind_ne F.cmpSplit_ne (I.type.andThen (PySem.W.looks_mroIn X hm)) (F.cmpArgs_ne _ _)
   (ne_entry (A:=A.in1) hu X I hs hf (wpAny_mono h (fun v s' hv => ?_) fun _ _ e => e))))))
  obtain ⟨c,rfl,hq⟩:=hv
  first
   | exact ⟨c,rfl,wpAny_pure ⟨_,rfl,hq⟩⟩
   | exact ⟨c,rfl,wpAny_pure (wpAny_pure ⟨_,rfl,hq⟩)⟩
 unfold richCompare
 simp only [oneThing_ref]
 refine wpAny_holding (wpAny_bind (wpAny_cRoomFor (Nat.lt_of_succ_lt hu) ?_))
 refine wpAny_bind (I.type.here (wpAny_bind (hb.here ?_)))
 split
 ·rename_i q
  have e:PySem.W.subIn K tb (.ref C) = some false:=by
   rcases Bool.or_eq_true_iff.mp hn with e | e
   ·rw [beq_iff_eq.mp e] at q; simp at q
   ·exact beq_iff_eq.mp e
  refine wpAny_bind ((PySem.W.looks_subIn X e).here ?_)
  simp only [Bool.false_eq_true,if_false]
  refine wpAny_bind (wpAny_mono one (fun r s' z => ?_) fun _ _ e => e)
  obtain ⟨v,rfl,hq⟩:=z
  exact wpAny_pure hq
 ·refine wpAny_bind (wpAny_pure ?_)
  simp only [Bool.false_eq_true,if_false]
  refine wpAny_bind (wpAny_mono one (fun r s' z => ?_) fun _ _ e => e)
  obtain ⟨v,rfl,hq⟩:=z
  exact wpAny_pure hq
end

abbrev noX:XK:=fun _ _ _ => False
section
variable {X:Cx} {W:WX} {a b:Expr} {ma mb:EM PV} {pos:Pos} {C:Str} {F:FM} {Ca fa:Addr} {fd:FuncData} {ps:List Str} {k:Nat}
def rOwnX (X:Cx) (Ca:Addr) (neg:Bool) (F:FM):R2:=fun x y H Q => ∃ a dx fs b dy gs,x = .ref a∧y = .ref b∧H a = some (.ins Ca dx fs)∧H b = some (.ins Ca dy gs) ∧
 spD X.prog X.w X.K X.mg 2 F [x,y] H (fun z H' => ∃ c,z = .bl c∧Q (.bl (xor neg c)) H') noX
structure OwnC (K:PySem.W.Frag) (Ca fa:Addr):Prop where
 eq:PySem.W.findIn K (.ref Ca) "__eq__" = some (some (.ref fa))
 fn:PySem.W.isFn K (.ref fa) = true
 ne:PySem.W.findIn K (.ref Ca) "__ne__" = some (some (.builtin "object.__ne__"))
 ob:PySem.W.mroIn K Ca (.type "object") = some true
 nf:PySem.W.notFirst K Ca (.ref Ca) = true
theorem own_run (G:FnOk X.prog X.w X.K X.mg X.base (L2.CX X.prog X.w) k fa fd ps (spD X.prog X.w X.K X.mg 2 F)) (hb:Binds X.K fd ps []) {A:Around} {pins:List (Addr × Obj)} {σ : L2.St} {H:Hp} {s:Shared} {x y:Addr} {Q:VK}
  (hr:Room k A) (e0:Env0 X.prog X.w X.K X.mg X.base A X.stack s H) (I:Inv X pins σ H s) (h:spD X.prog X.w X.K X.mg 2 F [.ref x,.ref y] H Q noX) :
  wpAny (model X.prog X.w) A (call (.ref fa) [.ref x,.ref y]) (EP X pins σ Q) X.xe s:=by
 have hl:=G.len _ _ _ _ h
 refine wpAny_call (codeAny_mono (G.run A X.stack s H ⟨[.ref x,.ref y],[]⟩ [.ref x,.ref y] [.ref x,.ref y] Q noX hr e0 (by
  have:=hb s [.ref x,.ref y] I.kIn (by simpa using hl)
  simpa using this) (.cons rfl (.cons rfl .nil)) h) fun r s' hq => ?_)
 cases r with
 | error e =>
  obtain ⟨_,_,_,_,_,_,_,_,_,_,_,_,h⟩:=(show L2.CX X.prog X.w X.stack H s noX e s' from hq)
  exact h.elim
 | ok fl =>
  cases fl with
  | ret w => exact I.after hq
  | next => exact False.elim hq
  | brk => exact False.elim hq
  | cont => exact False.elim hq
theorem own_eq_rc (O:OwnC X.K Ca fa) (G:FnOk X.prog X.w X.K X.mg X.base (L2.CX X.prog X.w) k fa fd ps (spD X.prog X.w X.K X.mg 2 F)) (hb:Binds X.K fd ps []) {A:Around} {pins:List (Addr × Obj)} {σ : L2.St} {H:Hp} {s:Shared} {x y dx dy:Addr} {fs gs:List (Str × V)} {Q:VK}
  (hr:Room k A) (e0:Env0 X.prog X.w X.K X.mg X.base A X.stack s H) (I:Inv X pins σ H s) (hx:H x = some (.ins Ca dx fs)) (hy:H y = some (.ins Ca dy gs)) (h:spD X.prog X.w X.K X.mg 2 F [.ref x,.ref y] H (fun z H' => ∃ c,z = .bl c∧Q (.bl c) H') noX) :
  wpAny (model X.prog X.w) A (richCompare .Eq (.ref x) (.ref y)) (fun v s' => ∃ c,v = .bool c∧EP X pins σ Q (.bool c) s') X.xe s:=by
 obtain ⟨mA,J,_⟩:=ins_get I.hok hx
 obtain ⟨od,J,_⟩:=J.look
 obtain ⟨mB,J',_⟩:=ins_get I.hok hy
 obtain ⟨od',J',_⟩:=J'.look
 obtain ⟨m,hF⟩:=I.fr
 refine PySem.W.cmp_K (op:=.Eq) (tb:=.ref Ca) hr.units0 hF I.ok.mod.kin J J'.type O.nf O.eq O.fn ?_
 refine wpAny_mono (own_run G hb hr e0 I h) (fun v s' z => ?_) fun _ _ e => e
 obtain ⟨z',H',I',rz,c,ez,q⟩:=z
 subst ez
 cases (show v = Value.bool c from rz)
 exact ⟨c,rfl,.bl c,H',I',rfl,q⟩
theorem op_eqOwn (O:OwnC X.K Ca fa) (G:FnOk X.prog X.w X.K X.mg X.base (L2.CX X.prog X.w) k fa fd ps (spD X.prog X.w X.K X.mg 2 F)) (hb:Binds X.K fd ps []) (hr:Room k X.A):OpR X (compareOp .Eq) (rOwnX X Ca false F):=by
 intro pins s σ H x y v u Q I rx ry h
 obtain ⟨a,dx,fs,b,dy,gs,rfl,rfl,ha,hb',q⟩:=h
 cases (show v = Value.ref a from rx)
 cases (show u = Value.ref b from ry)
 show wpAny (model X.prog X.w) X.A (richCompare .Eq (.ref a) (.ref b)) (EP X pins σ Q) X.xe s
 refine wpAny_mono (own_eq_rc O G hb hr I.env0 I ha hb' (Q:=Q) ?_) (fun v s' ⟨c,e,z⟩ => by subst e; exact z) fun _ _ e => e
 obtain ⟨ι,S,ps',r,rl,hn,wpx⟩:=q
 exact ⟨ι,S,ps',r,rl,hn,wp_mono wpx (fun v S' k ι' H' x e r' q' => by
  obtain ⟨c,e2,z⟩:=k ι' H' x e r' q'
  exact ⟨c,e2,by simpa using z⟩) fun _ _ _ k => k⟩
theorem op_neOwn (O:OwnC X.K Ca fa) (G:FnOk X.prog X.w X.K X.mg X.base (L2.CX X.prog X.w) k fa fd ps (spD X.prog X.w X.K X.mg 2 F)) (hb:Binds X.K fd ps []) (hr:Room (k + 1) X.A):OpR X (compareOp .NotEq) (rOwnX X Ca true F):=by
 intro pins s σ H x y v u Q I rx ry h
 obtain ⟨a,dx,fs,b,dy,gs,rfl,rfl,ha,hb',q⟩:=h
 cases (show v = Value.ref a from rx)
 cases (show u = Value.ref b from ry)
 show wpAny (model X.prog X.w) X.A (richCompare .NotEq (.ref a) (.ref b)) (EP X pins σ Q) X.xe s
 obtain ⟨mA,J,_⟩:=ins_get I.hok ha
 obtain ⟨od,J,_⟩:=J.look
 obtain ⟨mB,J',_⟩:=ins_get I.hok hb'
 obtain ⟨od',J',_⟩:=J'.look
 obtain ⟨m,hF⟩:=I.fr
 refine ne_K (tb:=.ref Ca) hr.in1.units0 hF I.ok.mod.kin J J'.type O.nf O.ob O.ne O.eq O.fn ?_
 refine wpAny_mono (own_run G hb hr.in1 I.env0.in1 I q) (fun v s' z => ?_) fun _ _ e => e
 obtain ⟨z',H',I',rz,c,ez,q⟩:=z
 subst ez
 cases (show v = Value.bool c from rz)
 exact ⟨c,rfl,.bl _,H',I',rfl,by simpa using q⟩
end
section
open HT
variable {prog:Program} {w:World} {A:Around} {E:Value→Shared→Prop} {s:Shared}
theorem fm_congr {α β : Type} {f g : α→Option β}:∀ {l:List α},(∀ x ∈ l,f x = g x)→l.filterMap f = l.filterMap g
 | [],_ => rfl
 | a :: l,h => by
  rw [List.filterMap_cons,List.filterMap_cons,h a (by simp),fm_congr fun x hx => h x (by simp [hx])]
theorem adjust_rev (n:Nat):Builtin.Slice.sliceAdjust none none (-1) (n:Int) = ((n:Int) - 1,-1):=by
 unfold Builtin.Slice.sliceAdjust
 simp
theorem places_rev (n:Nat):Builtin.Slice.slicePlaces ((n:Int) - 1) (-1) (-1) = n:=by
 unfold Builtin.Slice.slicePlaces
 have h1:¬ ((-1:Int) > 0):=by omega
 simp only [h1,if_false]
 split
 ·rw [show (- -1:Int) = 1 by decide,Int.ediv_one]; omega
 ·simp; omega
theorem sliceApplied_rev {sl:Addr} {vl vu vs:Value} {n:Nat} {Q:Int × Int × Nat→Shared→Prop} (hs:s.heap.IsSliceOf sl vl vu vs) (pl:IsPart vl none) (pu:IsPart vu none) (ps:IsPart vs (some (-1)))
  (h:Q ((n:Int) - 1,-1,n) s):wpAny (model prog w) A (Builtin.Slice.sliceApplied (.ref sl) (pure (n:Int))) Q E s:=by
 obtain ⟨os,hos,hcs,hds⟩:=id hs
 unfold Builtin.Slice.sliceApplied Builtin.Slice.sliceFields
 refine wpAny_bind (wpAny_bind (wpAny_field hos hds (x:=vl) rfl (wpAny_bind (wpAny_field hos hds (x:=vu) rfl (wpAny_bind (wpAny_field hos hds (x:=vs) rfl (wpAny_pure ?_)))))))
 refine wpAny_bind (slicePart_ ps ?_)
 show wpAny _ _ (if ((-1:Int) == 0) = true then _ else _) _ _ s
 rw [if_neg (by decide)]
 refine wpAny_bind (slicePart_ pl (wpAny_bind (slicePart_ pu (wpAny_bind (wpAny_pure ?_)))))
 show wpAny _ _ (match Builtin.Slice.sliceAdjust none none (-1) (n:Int) with | (lo,hi) => pure (lo,(-1:Int),Builtin.Slice.slicePlaces lo hi (-1))) _ _ s
 rw [adjust_rev n]
 show wpAny _ _ (pure ((n:Int) - 1,(-1:Int),Builtin.Slice.slicePlaces ((n:Int) - 1) (-1) (-1))) _ _ s
 rw [places_rev]
 exact wpAny_pure h
theorem pick_rev (xs:Array Value):((List.range xs.size).filterMap fun (m:Nat) => xs[(((xs.size:Int) - 1) + (m:Int) * (-1)).toNat]?).toArray = xs.toList.reverse.toArray:=by
 have e:((List.range xs.size).filterMap fun (m:Nat) => xs[(((xs.size:Int) - 1) + (m:Int) * (-1)).toNat]?) = ((List.range xs.size).map fun k => xs.size - 1 - k).filterMap (xs[·]?):=by
  rw [List.filterMap_map]
  refine fm_congr fun m hm => ?_
  have hm':=List.mem_range.mp hm
  show _ = xs[xs.size - 1 - m]?
  congr 1
  omega
 rw [e,PySem.W.krv_range,List.filterMap_reverse,PySem.W.krv_all]
theorem getItem_tuple_rev {t sl:Addr} {items:Array Value} {vl vu vs:Value} {Q:Value→Shared→Prop} (ht:IsTup s.heap t items) (hs:s.heap.IsSliceOf sl vl vu vs) (pl:IsPart vl none) (pu:IsPart vu none) (ps:IsPart vs (some (-1)))
  (h:Q (.ref s.heap.objs.size) { s with heap:=s.heap.push { cls:=.type "tuple",data:=.seq items.toList.reverse.toArray } })
  (hsz:items.size ≤ sizeLine):wpAny (model prog w) A (getItem (.ref t) (.ref sl)) Q E s:=by
 have htake:sizeOk (.seq items.toList.reverse.toArray):=by
  show items.toList.reverse.toArray.size ≤ sizeLine
  simpa using hsz
 obtain ⟨os,hos,hcs,hds⟩:=id hs
 have hTs:s.TypeIs (.ref sl) "slice" := ⟨os,hos,hcs⟩
 unfold getItem
 try with_reducible refine wpAny_holding ?_
 first | refine wpAny_bind (wpAny_pure ?_) | skip
 refine wpAny_bind (wpAny_sequenceKey ht.typeIs (by decide) ?_)
 refine wpAny_bind (wpAny_callSpecial?_slot (name:=Str.ofString "__getitem__") ht.typeIs PyProof.Rows.slot_tuple_getitem
  (wpAny_call_entry PyProof.Rows.slot_tuple_getitem ht.typeIs entry_tuple_getitem ?_ (args_tuple_getitem _ _)))
 show wpAny _ _ (Builtin.Tuple.tupleItemsOf (.ref t) >>= _) _ _ s
 refine wpAny_bind (tupleItemsOf_ ht ?_)
 refine wpAny_bind (wpAny_typeOf hTs ?_)
 rw [if_pos (by decide)]
 refine wpAny_bind (sliceApplied_rev hs pl pu ps ?_)
 have hno:¬ ((((items.size:Int) - 1) == 0 && (-1:Int) == 1 && items.size == items.size) = true):=by simp
 show wpAny _ _ (if (((items.size:Int) - 1) == 0 && (-1:Int) == 1 && items.size == items.size) = true then _ else _) _ _ s
 rw [if_neg hno,pick_rev]
 first
  | exact wpAny_bind (m:=Builtin.Tuple.tupleExact _) (wpAny_newObj_type (wpAny_pure ⟨_,rfl,wpAny_pure h⟩) htake)
  | exact wpAny_bind (m:=Builtin.Tuple.tupleExact _) (wpAny_newObj_type (wpAny_bind (wpAny_pure (wpAny_pure ⟨_,rfl,wpAny_pure h⟩))) htake)
  | exact wpAny_bind (wpAny_bind (m:=Builtin.Tuple.tupleExact _) (wpAny_newObj_type (wpAny_pure (wpAny_pure ⟨_,rfl,wpAny_pure h⟩)) htake))
  | exact wpAny_bind (wpAny_bind (m:=Builtin.Tuple.tupleExact _) (wpAny_newObj_type (wpAny_pure ⟨_,rfl,wpAny_pure h⟩) htake))
end
section
variable {X:Cx} {W:WX} {e:Expr} {ma:EM PV} {pos:Pos}
def tRevA (K:PySem.W.Frag) (te:TE):TE:=fun σ H Q => te σ H fun x H1 => ∃ a xs,x = .ref a∧((SqL K H1 a xs∧∀ p,H1 p = none→Q (.ref p) (upd H1 p (.lst xs.reverse))) ∨ (SqT K H1 a xs∧∀ p,H1 p = none→PLz.NewT H1 p xs.reverse (Q (.ref p))))
theorem pe_revA {te:TE} {k:Nat} {p1 p2 p3:Pos} (he:PE X e te):PE X (.Subscript e (.Slice none none (some (.UnaryOp .USub (.Constant (.int 1) k p1) p2)) p3) pos) (tRevA X.K te):=by
 refine ⟨fun pins s σ H Q I h => ?_⟩
 refine Subscript_ (thn (he.run pins s σ H _ I h) fun v s1 ⟨x,H1,I1,r1,q1⟩ => ?_)
 obtain ⟨a,xs,ex,q⟩:=q1
 subst ex
 cases r1
 have hst:PO X (some (.UnaryOp .USub (.Constant (.int 1) k p1) p2)) (tPart (tUn (rU fun i => .int (-i)) (tC (.int 1)))):=po_some (pe_un un_neg pe_int)
 refine wpAny_Slice (thn (po_none.run pins s1 σ H1 (fun o H2 => o = none∧H2 = H1) I1 ⟨rfl,rfl⟩) fun vl s2 ⟨l,H2,I2,pl,el,e2⟩ => ?_)
 subst el e2
 refine thn (po_none.run pins s2 σ H2 (fun o H3 => o = none∧H3 = H2) I2 ⟨rfl,rfl⟩) fun vu s3 ⟨u,H3,I3,pu,eu,e3⟩ => ?_
 subst eu e3
 refine thn (hst.run pins s3 σ H3 (fun o H4 => o = some (-1)∧H4 = H3) I3 ⟨1,rfl,-1,rfl,rfl,rfl⟩) fun vs s4 ⟨o,H4,I4,ps,eo,e4⟩ => ?_
 subst eo e4
 have I5:Inv X pins σ H4 { s4 with heap:=s4.heap.push { cls:=.type "slice",data:=.fields #[vl,vu,vs] } }:=I4.kept (t':=s4.toks) fun b ob q => Heap.get?_push_of_some _ q
 show wpAny (model X.prog X.w) X.A (subscriptTail e (.Slice none none (some (.UnaryOp .USub (.Constant (.int 1) k p1) p2)) p3) (.ref a) (.ref s4.heap.objs.size)) (EP X pins σ Q) X.xe { s4 with heap:=s4.heap.push { cls:=.type "slice",data:=.fields #[vl,vu,vs] } }
 rcases q with ⟨hx,q⟩ | ⟨hx,q⟩
 ·obtain ⟨its,r,ht,hz⟩:=I5.list hx
  have hlen:=r.length
  refine tail_any (ops:=[.ref a,.ref s4.heap.objs.size]) ht.isList.typeIs (PySem.slot_list_getitem.lookup) ?_ (by with_unfolding_all rfl)
  refine wpAny_getItem_list_slice ht.isList (Heap.IsSliceOf.new _ vl vu vs) pl pu ps (by decide) ?_ (by rw [List.size_toArray]; omega)
  rw [PySem.W.krv_pick]
  refine ⟨.ref _,_,I5.laid (t':=s4.toks) (o:=.lst xs.reverse) (fun b ob q => Heap.get?_push_of_some _ q) (Nat.le_refl _) ?_,rfl,q _ (I5.hok.fresh (Nat.le_refl _))⟩
  exact ⟨by rw [List.length_reverse]; exact hz,_,0,r.reverse,Heap.get?_push_size _ rfl⟩
 ·obtain ⟨its,r,ht,hz⟩:=I5.tuple hx
  have hlen:=r.length
  refine tail_any (ops:=[.ref a,.ref s4.heap.objs.size]) ht.typeIs (PyProof.Rows.slot_tuple_getitem.lookup) ?_ (by with_unfolding_all rfl)
  refine getItem_tuple_rev ht (Heap.IsSliceOf.new _ vl vu vs) pl pu ps ?_ (by rw [List.size_toArray]; omega)
  refine ⟨.ref _,_,I5.laid (t':=s4.toks) (o:=.frz { cls:=.type "tuple",data:=.seq its.toArray.toList.reverse.toArray } (.tup xs.reverse)) (fun b ob q => Heap.get?_push_of_some _ q) (Nat.le_refl _) ?_,rfl,q _ (I5.hok.fresh (Nat.le_refl _)) _ rfl⟩
  exact ⟨Heap.get?_push_size _ rfl,by rw [List.length_reverse]; exact hz,_,r.reverse,⟨_,Heap.get?_push_size _ rfl,rfl,0,rfl⟩⟩
def revAP (p:PV) (S:Sto):Option (PV × Sto):=match p with
 | .tup xs => some (.tup xs.reverse,S)
 | .fls xs => some (.loc S.length,S ++ [.lst xs.reverse])
 | .loc l => match S[l]? with | some (.lst xs) => some (.loc S.length,S ++ [.lst xs.reverse]) | _ => none
 | _ => none
theorem re_revA {k:Nat} {p1 p2 p3:Pos} (he:RE X W e ma):RE X W (.Subscript e (.Slice none none (some (.UnaryOp .USub (.Constant (.int 1) k p1) p2)) p3) pos) (unM revAP ma):=by
 refine ⟨pe_weak (pe_revA he.pe) fun σ H Q h => ?_⟩
 obtain ⟨ι,τ,S,r,ρ,pk⟩:=h
 refine ⟨ι,τ,S,r,ρ,pk.next.mono ?_⟩
 rintro x H1 ⟨p,ι1,S1,e1,r1,q1,pk1⟩
 obtain ⟨v,S',hf,k⟩:=pk_lift pk1
 unfold revAP at hf
 split at hf
 ·cases hf
  obtain ⟨a,vs,rfl,h1,h2⟩:=q1
  refine ⟨a,vs,rfl,.inr ⟨h1.seq,fun p hp o ho => ?_⟩⟩
  obtain ⟨E,r4⟩:=r1.tup (ho:=.frz o (.tup vs.reverse)) hp
  exact k _ _ _ E r4 ⟨p,_,rfl,.inl ⟨o,upd_same,ho⟩,h2.rev.up E⟩
 ·cases hf
  obtain ⟨a,vs,rfl,h1,h2⟩:=q1
  refine ⟨a,vs,rfl,.inl ⟨h1.seq,fun p hp => ?_⟩⟩
  obtain ⟨E,r4,q4⟩:=r1.new_lst hp h2.rev
  exact k _ _ _ E r4 q4
 ·split at hf
  ·rename_i xs eS
   cases hf
   obtain ⟨a,rfl,h1⟩:=q1
   obtain ⟨vs,h2,h3⟩:=r1.obj _ a _ h1 eS
   refine ⟨a,vs,rfl,.inl ⟨.of h2,fun p hp => ?_⟩⟩
   obtain ⟨E,r4,q4⟩:=r1.new_lst hp h3.rev
   exact k _ _ _ E r4 q4
  ·cases hf
 ·cases hf
end
section
variable {X:Cx} {W:WX} {a b:Expr} {ma mb:EM PV} {pos:Pos} {C:Str} {F:FM} {Ca fa:Addr} {fd:FuncData} {ps:List Str} {k:Nat}
def ownO (neg:Bool):PV→Sto→Out PV:=fun v S => match v with | .bl c => .ok (.bl (xor neg c)) S | _ => .bad
def ownC (C:Str) (neg:Bool) (F:FM) (p q:PV) (S:Sto):Out PV:=if (isIns C "" p S && isIns C "" q S) = true then bnd (noEr (F [p,q] S)) (ownO neg) else .bad
def ownEqM (C:Str) (neg:Bool) (F:FM) (ma mb:EM PV):EM PV:=fun τ S => bnd (ma τ S) fun p S1 => bnd (mb τ S1) fun q S2 => ownC C neg F p q S2
theorem ownC_read {neg:Bool} (hm:X.mg C = some (.ref Ca)) {ι : List Addr} {H:Hp} {S:Sto} {p q:PV} {x y:V} {σ : L2.St} {Q:VK} (rs:RSt X.prog X.w X.K X.mg ι H S) (rp:Rp X.K ι H p x) (rq:Rp X.K ι H q y) (h:Pk X W (rV X) σ Q ι H (ownC C neg F p q S)) :
  rOwnX X Ca neg F x y H Q:=by
 unfold ownC at h
 split at h
 ·rename_i hi
  rw [Bool.and_eq_true] at hi
  obtain ⟨ax,dx,fs,rfl,h1,_⟩:=isIns_rp hm rs rp hi.1
  obtain ⟨ay,dy,gs,rfl,h2,_⟩:=isIns_rp hm rs rq hi.2
  refine ⟨ax,dx,fs,ay,dy,gs,rfl,rfl,h1,h2,ι,S,[p,q],rs,⟨_,_,rfl,rp,_,_,rfl,rq,rfl⟩,rfl,?_⟩
  cases hF:F [p,q] S with
  | bad => rw [hF] at h; exact h.elim
  | er c p' S' => rw [hF] at h; exact h.elim
  | ok v S' =>
   rw [hF] at h
   simp only [noEr_ok,bnd_ok] at h
   show ∀ ι' H' x,Ext ι H ι' H'→RSt X.prog X.w X.K X.mg ι' H' S'→Rp X.K ι' H' v x→_
   intro ι' H' z e' r' q'
   cases v with
   | bl c => exact ⟨c,q',h ι' H' _ e' r' rfl⟩
   | _ => exact h.elim
 ·exact h.elim
theorem own_read {neg:Bool} (hm:X.mg C = some (.ref Ca)) (σ : L2.St) (H:Hp) (Q:VK) (h:gE X W (rV X) (ownEqM C neg F ma mb) σ H Q):tOp (rOwnX X Ca neg F) (gE X W (rV X) ma) (gE X W (rV X) mb) σ H Q:=by
 obtain ⟨ι,τ,S,r,ρ,pk⟩:=h
 refine ⟨ι,τ,S,r,ρ,pk.next.mono ?_⟩
 rintro x H1 ⟨p,ι1,S1,e1,r1,q1,pk1⟩
 refine ⟨ι1,τ,S1,r1,ρ.up e1,pk1.next.mono ?_⟩
 rintro y H2 ⟨q,ι2,S2,e2,r2,q2,pk2⟩
 exact ownC_read hm r2 (q1.up e2) q2 pk2
theorem re_eqOwn (hm:X.mg C = some (.ref Ca)) (O:OwnC X.K Ca fa) (G:FnOk X.prog X.w X.K X.mg X.base (L2.CX X.prog X.w) k fa fd ps (spD X.prog X.w X.K X.mg 2 F)) (hb:Binds X.K fd ps []) (hr:Room k X.A) (ha:RE X W a ma) (hb':RE X W b mb) (hmk:behindInMarks .Eq b = false:=by first | exact nomark _ | rfl):RE X W (.Compare a [.Eq] [b] pos) (ownEqM C false F ma mb) :=
 ⟨pe_weak (pe_cmpR (op_eqOwn O G hb hr) ha.pe hb'.pe hmk) (own_read hm)⟩
theorem rt_neOwn (hm:X.mg C = some (.ref Ca)) (O:OwnC X.K Ca fa) (G:FnOk X.prog X.w X.K X.mg X.base (L2.CX X.prog X.w) k fa fd ps (spD X.prog X.w X.K X.mg 2 F)) (hb:Binds X.K fd ps []) (hr:Room (k + 1) X.A) (ha:RE X W a ma) (hb':RE X W b mb) (hmk:behindInMarks .NotEq b = false:=by first | exact nomark _ | rfl):RT X W (.Compare a [.NotEq] [b] pos) (blM (ownEqM C true F ma mb)) :=
 ⟨pt_weak (pt_cmpR (op_neOwn O G hb hr) ha.pe hb'.pe hmk) fun σ H Q h => own_read hm σ H _ (bl_read σ H Q h)⟩
end
section
open AutoSeq1 (wpAny_loadPart')
open MeetsSeq MeetsSeq2 MeetsSeq3 SeqRoads2
variable {prog:Program} {w:World} {A:Around} {E:Value→Shared→Prop} {s:Shared} {l:Addr} {u v:Value}
end
section
variable {X:Cx} {W:WX} {a b:Expr} {ma mb:EM PV} {pos:Pos} {C:Str} {F:FM} {Ca fa:Addr} {fd:FuncData} {ps:List Str} {k:Nat}
end
end PL
namespace PL
open PySem PySem.Spec PyProof.Rows L2
section
variable {P:PV→Sto→Prop} {R:Str→PV→Sto→Prop} {S:Sto} {xs:List PV} {l:Nat} {τ : En}
@[simp] theorem e_ownO (neg c:Bool) (S:Sto):ownO neg (.bl c) S = .ok (.bl (xor neg c)) S:=rfl
@[simp] theorem e_ownC (C:Str) (neg:Bool) (F:FM) (p q:PV) (S:Sto):ownC C neg F p q S = if (isIns C "" p S && isIns C "" q S) = true then bnd (noEr (F [p,q] S)) (ownO neg) else .bad:=rfl
def ownE2 (C:Str) (neg:Bool) (F:FM) (p:PV):PV→Sto→Out PV:=fun q S => ownC C neg F p q S
def ownE1 (C:Str) (neg:Bool) (F:FM) (mb:EM PV) (τ : En):PV→Sto→Out PV:=fun p S => bnd (mb τ S) fun q S2 => ownC C neg F p q S2
@[simp] theorem e_ownE2 (C:Str) (neg:Bool) (F:FM) (p q:PV) (S:Sto):ownE2 C neg F p q S = ownC C neg F p q S:=rfl
@[simp] theorem e_ownE1 (C:Str) (neg:Bool) (F:FM) (mb:EM PV) (τ : En) (p:PV) (S:Sto):ownE1 C neg F mb τ p S = bnd (mb τ S) (ownE2 C neg F p):=rfl
@[simp] theorem e_ownEqM (C:Str) (neg:Bool) (F:FM) (ma mb:EM PV) (τ : En) (S:Sto):ownEqM C neg F ma mb τ S = bnd (ma τ S) (ownE1 C neg F mb τ):=rfl
@[simp] theorem revAP_tup (xs:List PV):revAP (.tup xs) S = some (.tup xs.reverse,S):=rfl
end
end PL
namespace PLK2
open PySem PySem.HandSPX
open Sem (wp)
open Builtin
section
variable {prog:Program} {w:World} {A:Around} {E:Value→Shared→Prop} {R:Result→Shared→Prop} {h:Heap} {g:Array GenState} {d:Drawn} {t:Nat} {os:OsState}
variable {nm q:Str} {C N:Addr} {bs bm bmB:List Value} {hdct:Bool} {sn:List Str} {sub:List Value} {ab:Bool} {col:Option Bool} {dd:Option Addr} {k0 k1 k2 k3 k5:Option Value} {B newId initId:String} {n1:Str} {v1:Value}
end
end PLK2
namespace PL
open PySem PySem.Spec PyProof.Rows L2
section
variable {X:Cx} {W:WX} {e:Expr} {ma:EM PV} {p pos pos':Pos}
end
end PL
namespace PL
open PySem PySem.Spec PyProof.Rows L2
section
variable {X:Cx}
end
section
variable {X:Cx} {W:WX} {o e:Expr} {es:List Expr} {mo:EM PV} {mas:EM (List PV)} {apos cpos:Pos}
end
end PL
namespace PL
open PySem PySem.Spec PyProof.Rows L2
end PL
namespace PL
open PySem PySem.Spec PyProof.Rows L2
def Sm (x:Str):Prop:=Fair x∧x.length ≤ 9
theorem Nm.sm {x:Str} (h:Nm x):Sm x:=⟨h.fair,by have:=h.q; omega⟩
mutual
theorem Rw.All_fairs {p:Str→Prop} (hp:∀ x,p x→Fair x):∀ {r:Rw},r.All p→r.fair
 | .set x v,h => by
  refine ⟨hp x h.1,?_⟩
  have:=h.2
  cases v <;> simp only [Vl.All,Vl.fair] at this ⊢
  ·exact hp _ this
  ·exact ⟨hp _ this.1,hp _ this.2⟩
  ·exact hp _ this
  ·exact ⟨hp _ this.1,fun y hy => hp y (this.2 y hy)⟩
 | .iff x a b,h => ⟨hp x h.1,Rw.Alls_fairs hp h.2.1,Rw.Alls_fairs hp h.2.2⟩
 | .send x,h => hp x h
 | .give x,h => hp x h
theorem Rw.Alls_fairs {p:Str→Prop} (hp:∀ x,p x→Fair x):∀ {rs:List Rw},Rw.Alls p rs→Rw.fairs rs
 | [],_ => trivial
 | r :: rs,h => ⟨Rw.All_fairs hp h.1,Rw.Alls_fairs hp h.2⟩
end
mutual
theorem Rw.All_mono {p q:Str→Prop} (hp:∀ x,p x→q x):∀ {r:Rw},r.All p→r.All q
 | .set x v,h => by
  refine ⟨hp x h.1,?_⟩
  have:=h.2
  cases v <;> simp only [Vl.All] at this ⊢
  ·exact hp _ this
  ·exact ⟨hp _ this.1,hp _ this.2⟩
  ·exact hp _ this
  ·exact ⟨hp _ this.1,fun y hy => hp y (this.2 y hy)⟩
 | .iff x a b,h => ⟨hp x h.1,Rw.Alls_mono hp h.2.1,Rw.Alls_mono hp h.2.2⟩
 | .send x,h => hp x h
 | .give x,h => hp x h
theorem Rw.Alls_mono {p q:Str→Prop} (hp:∀ x,p x→q x):∀ {rs:List Rw},Rw.Alls p rs→Rw.Alls q rs
 | [],_ => trivial
 | r :: rs,h => ⟨Rw.All_mono hp h.1,Rw.Alls_mono hp h.2⟩
end
structure SP (j:Nat) (ds:List Df):Prop where
 len:ds.length ≤ 6 + j
 nm:∀ d ∈ ds,Sm d.1∧(∀ x ∈ d.2.1,Sm x)∧Rw.Alls Sm d.2.2
 dep:∀ d ∈ ds,Rw.deps d.2.2 ≤ 4
 cnt:∀ d ∈ ds,(Rw.eachs d.2.2).length ≤ 60
 par:∀ d ∈ ds,d.2.1.length ≤ 4
 ins:∀ d ∈ ds,∀ r ∈ Rw.eachs d.2.2,r.ins.length ≤ 5 + j
theorem NP.sp {ds:List Df} (p:NP ds):SP 0 ds where
 len:=p.len
 nm:=fun d hd => ⟨(p.nm d hd).1.sm,fun x hx => ((p.nm d hd).2.1 x hx).sm,Rw.Alls_mono (fun _ h => h.sm) (p.nm d hd).2.2⟩
 dep:=p.dep
 cnt:=p.cnt
 par:=p.par
 ins:=p.ins
theorem SP.up {i j:Nat} {ds:List Df} (p:SP i ds) (h:i ≤ j):SP j ds :=
 ⟨by have:=p.len; omega,p.nm,p.dep,p.cnt,p.par,fun d hd r hr => by have:=p.ins d hd r hr; omega⟩
theorem SP.names {j:Nat} {ds:List Df} (p:SP j ds):∀ d ∈ ds,∀ x ∈ namesL d,Sm x:=by
 intro d hd x hx
 rcases List.mem_append.mp hx with hx | hx
 ·obtain ⟨r,hr,hx⟩:=List.mem_flatMap.mp hx
  exact ins_All (eachs_All _ (p.nm d hd).2.2 r hr) x hx
 ·exact (p.nm d hd).2.1 x hx
theorem SP.fair {j:Nat} {ds:List Df} (p:SP j ds):∀ d ∈ ds,d.fair:=fun d hd => ⟨(p.nm d hd).1.1,fun x hx => ((p.nm d hd).2.1 x hx).1,Rw.Alls_fairs (fun _ h => h.1) (p.nm d hd).2.2⟩
theorem SP.sized {j:Nat} {ds:List Df} (p:SP j ds) (hj:j ≤ 10):Sized ds where
 len:=by have:=p.len; omega
 dep:=fun d hd => by have:=p.dep d hd; omega
 cnt:=fun d hd => by have:=p.cnt d hd; omega
 ins:=fun d hd r hr => by have:=p.ins d hd r hr; omega
 par:=fun d hd => by have:=p.par d hd; omega
 nms:=fun d hd x hx => by have:=(p.names d hd x hx).2; omega
 own:=fun d hd => by have:=(p.nm d hd).1.2; omega
theorem SP.pl {j:Nat} {ds:List Df} (p:SP j ds):PlL 20 (ds.map Df.pv):=dfs_pl (m:=4) p.fair (fun d hd => p.dep d hd) (by omega)
end PL
namespace PLs
open PySem PySem.Spec PyProof.Rows L2
def Mk (m:Nat):Prop:=∃ e,3 ≤ e∧e ≤ 24∧m + 1 = 2 ^ e
theorem way_in (m:Nat) (h:Int) (k:Nat):way m h k ≤ m:=by
 have hb:SetTable.bits h % (m + 1) ≤ m:=Nat.le_of_lt_succ (Nat.mod_lt _ (Nat.succ_pos _))
 have r:=runEnd_bd hb
 have:=nth_in k (runAt m (SetTable.bits h % (m + 1)) (SetTable.bits h)) (show SetTable.bits h % (m + 1) + (SetTable.runEnd m (SetTable.bits h % (m + 1)) - SetTable.bits h % (m + 1)) ≤ m by omega)
 exact Nat.le_trans (Nat.le_add_right _ _) this
structure TabG (t:SetTable) (hs:List Int):Prop where
 ris:Ris t.place.toList
 nod:t.dummies = #[]
 siz:t.place.toList.length = hs.length
 msk:Mk t.mask
 low:∀ x ∈ t.place.toList,x ≤ t.mask
 fnd:∀ (i:Nat) (h:Int) (j:Nat),hs[i]? = some h→t.place.toList[i]? = some j→∃ k,way t.mask h k = j∧∀ c,c < k→way t.mask h c ∈ t.place.toList
section
variable {t:SetTable} {hs:List Int} {h:Int} {n:Nat}
theorem TabG.more (T:TabG t hs) (hn:way t.mask h n ∉ t.place.toList) (hb:∀ c,c < n→way t.mask h c ∈ t.place.toList) :
  ∃ p t',t.put (way t.mask h n) = (t',p)∧p ≤ hs.length∧TabG t' (hs.take p ++ h :: hs.drop p)∧t'.mask = t.mask∧t'.led = t.led∧t'.plain = t.plain∧t'.fill = hs.length + 1:=by
 have T0:=T
 obtain ⟨r,d,z,m,l,f⟩:=T0
 have hle:=way_in t.mask h n
 generalize hj:way t.mask h n = j at hn hle ⊢
 have cut:=(below_cut r j).1
 generalize hp:SetTable.below t.place j = p at cut
 have cutL:p ≤ t.place.toList.length:=by rw [Array.length_toList]; exact cut
 have place:(t.put j).1.place.toList = t.place.toList.take p ++ j :: t.place.toList.drop p:=by rw [put_place,hp]
 have grow:∀ x,x ∈ (t.put j).1.place.toList↔x = j ∨ x ∈ t.place.toList:=fun x => by rw [place]; exact mem_ins
 have len:(t.put j).1.place.toList.length = hs.length + 1:=by rw [place,len_ins _ cutL,z]
 refine ⟨p,(t.put j).1,by rw [← hp]; rfl,by omega,⟨?_,put_dm d j,by rw [len,len_ins _ (by omega)],m,fun x hx => ?_,fun i g q h1 h2 => ?_⟩,rfl,rfl,rfl,?_⟩
 ·exact ris_insert r fun e => hn (List.mem_of_getElem? (by rw [Array.getElem?_toList]; exact e))
 ·rcases (grow x).mp hx with e | e
  ·rw [e]; exact hle
  ·exact l x e
 ·show ∃ k,way t.mask g k = q∧∀ c,c < k→way t.mask g c ∈ (t.put j).1.place.toList
  rw [tins_get _ (by omega)] at h1
  rw [place,tins_get _ cutL] at h2
  have old:∀ i',hs[i']? = some g→t.place.toList[i']? = some q→∃ k,way t.mask g k = q∧∀ c,c < k→way t.mask g c ∈ (t.put j).1.place.toList:=fun i' a b => by
   obtain ⟨k,k1,k2⟩:=f i' g q a b
   exact ⟨k,k1,fun c hc => (grow _).mpr (.inr (k2 c hc))⟩
  split at h1
  ·rename_i c1
   rw [if_pos c1] at h2
   exact old i h1 h2
  ·rename_i c1
   rw [if_neg c1] at h2
   split at h1
   ·rename_i c2
    rw [if_pos c2] at h2
    cases h1; cases h2
    exact ⟨n,hj,fun c hc => (grow _).mpr (.inr (hb c hc))⟩
   ·rename_i c2
    rw [if_neg c2] at h2
    exact old (i - 1) h1 h2
 ·show (t.put j).1.place.size + (t.put j).1.dummies.size = _
  rw [put_dm d j,← Array.length_toList,len]; rfl
end
end PLs
set_option maxHeartbeats 2000000
namespace PLs
open PySem PySem.Spec PyProof.Rows L2
structure SKind (P:Program) (w:World) (K:Type) [DecidableEq K] where
 k:HeapKind P w K
 same:∀ {h h':Heap} {x:K} {a b:Addr} {o:Obj} {es:Array (Int × Value)} {ep:Nat} {t:SetTable},k.is h x b→h.get? a = some o→o.data = .set es ep t→Heap.SameBut a h h'→k.is h' x b
 keep:∀ {h h':Heap} {x:K} {b:Addr},k.is h x b→(∀ c o,h.get? c = some o→h'.get? c = some o)→k.is h' x b
 cls:∀ {A:Around} {E:Value→Shared→Prop} {s:Shared} {x:K} {b:Addr} {Q:Bool→Shared→Prop},k.is s.heap x b→Q false s→wpAny (model P w) A (ofAClassStatement 8 (.ref b)) Q E s
 byv:∀ {A:Around} {E:Value→Shared→Prop} {s:Shared} {x:K} {b:Addr} {Q:Bool→Shared→Prop},k.is s.heap x b→(∀ c,Q c s)→wpAny (model P w) A (hashByValue 8 (.ref b)) Q E s
 roomy:∀ {A:Around},A.units < cLine→k.room A
section
variable {P:Program} {w:World} {K:Type} [DecidableEq K] {S:SKind P w K} {A:Around} {E:Value→Shared→Prop} {s:Shared}
def Mok (m:Nat):Prop:=m = 7 ∨ m = 31 ∨ m = 127 ∨ m = 511 ∨ m = 2047 ∨ m = 8191
theorem Mok.le {m:Nat} (h:Mok m):m ≤ 8191:=by unfold Mok at h; omega
theorem Mok.mk {m:Nat} (h:Mok m):Mk m:=by
 rcases h with e | e | e | e | e | e <;> subst e
 ·exact ⟨3,by decide,by decide,by decide⟩
 ·exact ⟨5,by decide,by decide,by decide⟩
 ·exact ⟨7,by decide,by decide,by decide⟩
 ·exact ⟨9,by decide,by decide,by decide⟩
 ·exact ⟨11,by decide,by decide,by decide⟩
 ·exact ⟨13,by decide,by decide,by decide⟩
def rowsS (S:SKind P w K) (L:List (Addr × K)):List (Int × Value):=L.map fun p => (S.k.hash p.2,Value.ref p.1)
def hashS (S:SKind P w K) (L:List (Addr × K)):List Int:=L.map fun p => S.k.hash p.2
structure SetB (S:SKind P w K) (h:Heap) (a:Addr) (L:List (Addr × K)) (es:Array (Int × Value)) (ep:Nat) (t:SetTable):Prop where
 ob:∃ o,h.get? a = some o∧o.ExactSet∧o.data = .set es ep t
 rows:es.toList = rowsS S L
 tab:TabG t (hashS S L)
 nd:(L.map (·.2)).Nodup
 led:w.params.followText "set-order" = true ∨ t.led = true
 msk:Mok t.mask
 room:L.length * 5 < t.mask * 3
 few:L.length ≤ 4000
variable {a:Addr} {L:List (Addr × K)} {es:Array (Int × Value)} {ep:Nat} {t:SetTable}
theorem SetB.size {h:Heap} (R:SetB S h a L es ep t):es.size = L.length:=by
 rw [← Array.length_toList,R.rows]; simp [rowsS]
theorem fits_of (hd:t.dummies = #[]) (hz:t.place.toList.length = es.size) (hl:es.size ≤ t.mask):t.fits es.size = true:=by
 have hz':t.place.size = es.size:=by rw [← Array.length_toList]; exact hz
 simp [SetTable.fits,SetTable.fill,hd,hz',hl]
theorem SetB.fits {h:Heap} (R:SetB S h a L es ep t):t.fits es.size = true:=by
 have h1:=R.room
 refine fits_of R.tab.nod ?_ ?_
 ·rw [R.tab.siz,R.size]; simp [hashS]
 ·rw [R.size]; omega
end
end PLs
set_option maxHeartbeats 2000000
namespace PLs
open PySem PySem.Spec PyProof.Rows L2
section
variable {P:Program} {w:World} {K:Type} [DecidableEq K] {S:SKind P w K} {A:Around} {E:Value→Shared→Prop} {s:Shared}
variable {a:Addr} {L:List (Addr × K)} {es:Array (Int × Value)} {ep:Nat} {t:SetTable}
end
end PLs
set_option maxHeartbeats 4000000
namespace PLs
open PySem PySem.Spec PyProof.Rows L2
section
variable {P:Program} {w:World} {K:Type} [DecidableEq K] {S:SKind P w K} {A:Around} {E:Value→Shared→Prop} {s:Shared}
variable {a:Addr} {L:List (Addr × K)} {es:Array (Int × Value)} {ep:Nat} {t:SetTable}
structure Had (ks:List (Addr × K)) (i:Nat) (L:List (Addr × K)):Prop where
 of:∀ p ∈ L,p ∈ ks.take i
 to:∀ p ∈ ks.take i,p.2 ∈ L.map (·.2)
 le:L.length ≤ i
theorem Had.none (ks:List (Addr × K)):Had ks 0 []:=⟨by simp,by simp,Nat.le_refl _⟩
theorem Had.step {ks L L':List (Addr × K)} {i:Nat} {x:Addr × K} (g:Had ks i L) (e:ks[i]? = some x) (c1:x.2 ∈ L.map (·.2)→L' = L) (c2:x.2 ∉ L.map (·.2)→L'.Perm (x :: L)):Had ks (i + 1) L':=by
 have tk:ks.take (i + 1) = ks.take i ++ [x]:=by rw [List.take_succ,e]; rfl
 by_cases c:x.2 ∈ L.map (·.2)
 ·rw [c1 c]
  refine ⟨fun p hp => by rw [tk]; exact List.mem_append_left _ (g.of p hp),fun p hp => ?_,Nat.le_succ_of_le g.le⟩
  rw [tk] at hp
  rcases List.mem_append.mp hp with z | z
  ·exact g.to p z
  ·rw [List.mem_singleton.mp z]; exact c
 ·have pm:=c2 c
  refine ⟨fun p hp => ?_,fun p hp => ?_,by rw [pm.length_eq]; exact Nat.succ_le_succ g.le⟩
  ·rw [tk]
   rcases List.mem_cons.mp (pm.mem_iff.mp hp) with z | z
   ·rw [z]; simp
   ·exact List.mem_append_left _ (g.of p z)
  ·rw [(pm.map (·.2)).mem_iff,List.map_cons]
   rw [tk] at hp
   rcases List.mem_append.mp hp with z | z
   ·exact List.mem_cons_of_mem _ (g.to p z)
   ·rw [List.mem_singleton.mp z]; simp
theorem SetB.up {h h':Heap} (R:SetB S h a L es ep t) (k:∀ o,h.get? a = some o→h'.get? a = some o):SetB S h' a L es ep t:=by
 obtain ⟨o,ho,r⟩:=R.ob
 exact ⟨⟨o,k o ho,r⟩,R.rows,R.tab,R.nd,R.led,R.msk,R.room,R.few⟩
abbrev freshObj (w:World):Obj:={ cls:=.type "set",dict:=none,data:=.set #[] 0 (.fresh 0 0 (!w.params.followText "set-order")) }
theorem SetB.new {h:Heap} (e:h.get? a = some (freshObj w)):SetB S h a [] #[] 0 (.fresh 0 0 (!w.params.followText "set-order")):=by
 refine ⟨⟨_,e,⟨rfl,rfl,rfl⟩,rfl⟩,rfl,⟨List.Pairwise.nil,rfl,rfl,⟨3,by decide,by decide,rfl⟩,fun x hx => (by cases hx),fun i h j hi => (by simp [hashS] at hi)⟩,List.nodup_nil,?_,.inl rfl,?_,Nat.zero_le _⟩
 ·show _ ∨ (!w.params.followText "set-order") = true
  cases w.params.followText "set-order"
  ·exact .inr rfl
  ·exact .inl rfl
 ·show 0 * 5 < 7 * 3
  decide
end
end PLs
set_option maxHeartbeats 4000000
namespace PLs
open PySem PySem.Spec PyProof.Rows PySem.W L2
def kk:Key→Int ⊕ List Nat
 | .inl i => .inl i
 | .inr x => .inr x.cps.toList
section
variable {P:Program} {w:World} {A:Around} {E:Value→Shared→Prop} {s:Shared}
abbrev IsT2 (P:Program) (w:World) (h:Heap) (k:List Key) (a:Addr):Prop:=IsTupleKey (mixKind P w) h k a
def VT (P:Program) (w:World) (h:Heap) (k:List Key) (v:Value):Prop:=∃ a,v = .ref a∧IsT2 P w h k a
theorem VT.keeps {h h':Heap} {k:List Key} {v:Value} (x:VT P w h k v) (e:∀ b o,h.get? b = some o→o.cls = .type "tuple"→h'.get? b = some o):VT P w h' k v:=by
 obtain ⟨a,rfl,o,its,n,ho,hc,r⟩:=x
 exact ⟨a,rfl,o,its,n,e a o ho hc,hc,r⟩
def Fst (b:Bool):List Key→Prop
 | .inl _ :: _ => b = false
 | .inr _ :: _ => b = true
 | [] => False
end
end PLs
set_option maxHeartbeats 4000000
namespace PLs
open PySem PySem.Spec PyProof.Rows L2
section
variable {P:Program} {w:World}
theorem flat_items {k:List Key} {vs:List Value} (h:ItemsAre (mixKind P w) k vs):∀ v ∈ vs,(∃ i t,v = Value.int i t) ∨ ∃ x t,v = Value.str x t:=by
 induction h with
 | nil => intro v hv; cases hv
 | @cons k0 v' ks us h1 _ ih =>
  intro v hv
  rcases List.mem_cons.mp hv with e | hv
  ·subst e
   rcases keyIs_shape h1 with ⟨i,t,_,rfl⟩ | ⟨x,t,_,rfl⟩
   ·exact .inl ⟨i,t,rfl⟩
   ·exact .inr ⟨x,t,rfl⟩
  ·exact ih v hv
theorem flat_cls {A:Around} {E:Value→Shared→Prop} {s:Shared} {k:List Key} {b:Addr} {Q:Bool→Shared→Prop} (hk:IsT2 P w s.heap k b) (h:Q false s):wpAny (model P w) A (ofAClassStatement 8 (.ref b)) Q E s:=by
 have ty:=hk.typeIs
 obtain ⟨o,its,n,ho,_,hd,hi⟩:=hk
 have ei:∀ n i t,ofAClassStatement n (.int i t) = pure false:=fun n i t => by cases n <;> rfl
 have es:∀ n x t,ofAClassStatement n (.str x t) = pure false:=fun n i t => by cases n <;> rfl
 unfold ofAClassStatement
 refine wpAny_bind (wpAny_typeOf ty ?_)
 dsimp only
 have e:(("tuple" : String) == "tuple") = true:=by decide
 simp only [e,if_true,Bool.not_true,Bool.false_eq_true,if_false]
 try refine wpAny_bind (wpAny_pure ?_)
 try simp only [Bool.not_true,Bool.false_eq_true,if_false]
 show wpAny _ _ (seqItems? (.ref b) >>= _) _ _ s
 refine wpAny_bind (wpAny_seqItems ho hd ?_)
 dsimp only
 refine wpAny_bind ?_
 show wpAny _ _ (forIn its _ _) _ _ s
 rw [← Array.forIn_toList]
 refine wpAny_forIn_list _ (fun left r s' => s' = s∧r.1 = none∧∀ v ∈ left,(∃ i t,v = Value.int i t) ∨ ∃ x t,v = Value.str x t) _ ?_ ?_ _ _ ⟨rfl,rfl,flat_items hi⟩
 ·rintro v left r s' ⟨q,hr,all⟩
  subst q
  have more:∀ u ∈ left,(∃ i t,u = Value.int i t) ∨ ∃ x t,u = Value.str x t:=fun u hu => all u (by simp [hu])
  rcases all v (by simp) with ⟨i,t,rfl⟩ | ⟨x,t,rfl⟩
  ·rw [ei]
   refine wpAny_bind (wpAny_pure ?_)
   simp only [Bool.false_eq_true,if_false]
   exact wpAny_pure ⟨rfl,rfl,more⟩
  ·rw [es]
   refine wpAny_bind (wpAny_pure ?_)
   simp only [Bool.false_eq_true,if_false]
   exact wpAny_pure ⟨rfl,rfl,more⟩
 ·rintro ⟨r1,r2⟩ s' ⟨q,hr,_⟩
  subst q
  simp only at hr
  subst hr
  exact wpAny_pure h
theorem flat_byv {A:Around} {E:Value→Shared→Prop} {s:Shared} {k:List Key} {b:Addr} {Q:Bool→Shared→Prop} (hk:IsT2 P w s.heap k b) (h:∀ c,Q c s):wpAny (model P w) A (hashByValue 8 (.ref b)) Q E s:=by
 have ty:=hk.typeIs
 obtain ⟨o,its,n,ho,_,hd,hi⟩:=hk
 have ei:∀ n i t,hashByValue n (.int i t) = pure true:=fun n i t => by cases n <;> rfl
 have es:∀ n x t,hashByValue n (.str x t) = pure false:=fun n i t => by cases n <;> rfl
 unfold hashByValue
 refine wpAny_bind (wpAny_specialOf ty F.slot_tuple_hash.lookup ?_)
 show wpAny _ _ (seqItems? (.ref b) >>= _) _ _ s
 refine wpAny_bind (wpAny_seqItems ho hd ?_)
 refine wpAny_bind ?_
 show wpAny _ _ (forIn its _ _) _ _ s
 rw [← Array.forIn_toList]
 refine wpAny_forIn_list _ (fun left r s' => s' = s∧(r.1 = none ∨ r.1 = some false)∧∀ v ∈ left,(∃ i t,v = Value.int i t) ∨ ∃ x t,v = Value.str x t) _ ?_ ?_ _ _ ⟨rfl,.inl rfl,flat_items hi⟩
 ·rintro v left r s' ⟨q,hr,all⟩
  subst q
  have more:∀ u ∈ left,(∃ i t,u = Value.int i t) ∨ ∃ x t,u = Value.str x t:=fun u hu => all u (by simp [hu])
  rcases all v (by simp) with ⟨i,t,rfl⟩ | ⟨x,t,rfl⟩
  ·rw [ei]
   refine wpAny_bind (wpAny_pure ?_)
   simp only [Bool.not_true,Bool.false_eq_true,if_false]
   exact wpAny_pure ⟨rfl,.inl rfl,more⟩
  ·rw [es]
   refine wpAny_bind (wpAny_pure ?_)
   simp only [Bool.not_false,if_true]
   exact wpAny_pure (wpAny_pure (h _))
 ·rintro ⟨r1,r2⟩ s' ⟨q,hr,_⟩
  subst q
  simp only at hr
  rcases hr with hr | hr <;> subst hr <;> exact wpAny_pure (h _)
theorem flat_same {h h':Heap} {k:List Key} {a b:Addr} {o:Obj} {es:Array (Int × Value)} {ep:Nat} {t:SetTable} (hk:IsT2 P w h k b) (ho:h.get? a = some o) (hd:o.data = .set es ep t) (sb:Heap.SameBut a h h'):IsT2 P w h' k b:=by
 obtain ⟨o',its,n,ho',hc,hd',hi⟩:=hk
 refine ⟨o',its,n,(sb.2 b fun z => ?_).trans ho',hc,hd',hi⟩
 subst z
 have:o' = o:=Option.some.inj (ho'.symm.trans ho)
 rw [this,hd] at hd'
 cases hd'
def flatK (P:Program) (w:World):SKind P w (List Key) where
 k:=tupleKind (mixKind P w)
 same:=fun hk ho hd sb => flat_same hk ho hd sb
 keep:=fun ⟨o,its,n,ho,r⟩ k => ⟨o,its,n,k _ _ ho,r⟩
 cls:=fun hk h => flat_cls hk h
 byv:=fun hk h => flat_byv hk h
 roomy:=fun h => h
def SetO (P:Program) (w:World) (a:Addr) (L:List (Addr × List Key)):HO:=.ext fun h => ∃ es ep t,SetB (flatK P w) h a L es ep t
end
section
variable {X:Cx}
end
end PLs
set_option maxHeartbeats 4000000
namespace PL
open PySem PySem.Spec PyProof.Rows L2 PLs
abbrev TK:=List Key
section
variable {K:PySem.W.Frag} {ι : List Addr} {H:Hp}
end
section
variable {X:Cx} {W:WX} {a:Expr} {ma:EM PV} {p p2 q pos:Pos}
end
section
variable {P:PV→Sto→Prop} {R:Str→PV→Sto→Prop} {S:Sto} {l:Nat} {ks:List TK}
end
end PL
set_option maxHeartbeats 4000000
namespace PLz
open PySem PySem.Spec PyProof.Rows L2
def SqB (K:PySem.W.Frag) (H:Hp) (k:Bool) (a:Addr) (xs:List V):Prop:=match k with
 | true => SqT K H a xs
 | false => SqL K H a xs
def RawB (k:Bool) (h:Heap) (a:Addr) (its:Array Value):Prop:=match k with
 | true => h.IsTuple a its
 | false => h.IsList a its
def IterB (k:Bool) (h:Heap) (it a:Addr) (i:Nat):Prop:=match k with
 | true => h.IsTupleIter it a i
 | false => h.IsListIter it a i
def itObj (k:Bool) (a:Addr):Obj:=match k with
 | true => { cls:=.type "tuple_iterator",data:=.fields #[.ref a,.int 0 0] }
 | false => { cls:=.type "list_iterator",data:=.fields #[.ref a,.int 0 0] }
theorem IterB.ob {k:Bool} {h:Heap} {it a:Addr} {i:Nat} (x:IterB k h it a i):∃ o,h.get? it = some o∧∀ v,o.data ≠ .cell v:=by
 cases k <;> obtain ⟨o,ho,_,hd⟩:=x <;> exact ⟨o,ho,fun v q => by rw [hd] at q; cases q⟩
theorem IterB.to {k:Bool} {h h':Heap} {it a:Addr} {i:Nat} (x:IterB k h it a i) (e:∀ o,h.get? it = some o→h'.get? it = some o):IterB k h' it a i:=by
 cases k <;> obtain ⟨o,ho,r⟩:=x <;> exact ⟨o,e o ho,r⟩
theorem drawsB {prog:Program} {w:World} {A:Around} (k:Bool) (hh:A.handled = none) (it a:Addr) (hne:a ≠ it) (its:Array Value) :
  Draws prog w A it [it,a] its.size (fun i v => its[i]? = some v) (fun i h => IterB k h it a i∧RawB k h a its):=by
 cases k
 ·exact Draws.list hh it a hne its
 ·exact Draws.tuple hh it a hne its
theorem RawB.to {k:Bool} {h h':Heap} {a:Addr} {its:Array Value} (x:RawB k h a its) (e:∀ o,h.get? a = some o→h'.get? a = some o):RawB k h' a its:=by
 cases k <;> obtain ⟨o,ho,r⟩:=x <;> exact ⟨o,e o ho,r⟩
theorem drawsLate {prog:Program} {w:World} {A:Around} (k:Bool) (hh:A.handled = none) (it a:Addr) (its:Array Value) (n:Nat) (hn:its.size ≤ n) :
  Draws prog w A it [it,a] n (fun _ _ => False) (fun i h => i = n∧IterB k h it a i∧RawB k h a its) where
 live:=fun i h ⟨_,hi,_⟩ => let ⟨o,ho,_⟩:=hi.ob; ⟨o,ho⟩
 frame:=fun i h h' ⟨e,hi,hr⟩ q => ⟨e,hi.to fun o z => q it (by simp) o z,hr.to fun o z => q a (by simp) o z⟩
 item:=fun i s Q E hlt ⟨e,_⟩ _ => by omega
 done:=fun s Q E ⟨_,h1,h2⟩ hE => by
  cases k
  ·exact wpAny_nextOf_list_end hh h1 h2 (by simp; omega) hE
  ·exact wpAny_nextOf_tuple_end hh h1 h2 (by simp; omega) hE
theorem beginsB (k:Bool) (a:Addr) (its:Array Value):Begins (.ref a) (itObj k a) fun h => RawB k h a its:=by
 cases k
 ·exact begins_list a its
 ·exact begins_tuple a its
theorem itObj_iter {k:Bool} {h:Heap} {it a:Addr} (e:h.get? it = some (itObj k a)):IterB k h it a 0:=by
 cases k <;> exact ⟨_,e,rfl,rfl⟩
section
variable {X:Cx} {pins:List (Addr × Obj)} {s:Shared} {σ : L2.St} {H:Hp}
theorem inv_seq (I:Inv X pins σ H s) {k:Bool} {a:Addr} {xs:List V} (h:SqB X.K H k a xs):∃ its:List Value,Vals xs its∧RawB k s.heap a its.toArray:=by
 cases k
 ·obtain ⟨its,r,p,_⟩:=I.list h
  exact ⟨its,r,p.isList⟩
 ·obtain ⟨its,r,p,_⟩:=I.tuple h
  exact ⟨its,r,p⟩
theorem vals_fun:∀ {xs ys:List V} {us:List Value},Vals xs us→Vals ys us→xs = ys
 | _,_,_,.nil,h => by cases h; rfl
 | _,_,_,.cons r t,h => by
  cases h with
  | cons r' t' => rw [vals_fun t t',RelV.inj r r']
theorem seq_inj (I:Inv X pins σ H s) {k:Bool} {a:Addr} {xs ys:List V} (h:SqB X.K H k a xs) (h':SqB X.K H k a ys):xs = ys:=by
 cases k
 ·exact I.list_inj h h'
 ·obtain ⟨its,r,⟨o,ho,_,n,hd⟩,_⟩:=I.tuple h
  obtain ⟨its',r',⟨o',ho',_,n',hd'⟩,_⟩:=I.tuple h'
  have e:o = o':=Option.some.inj (ho.symm.trans ho')
  subst e
  rw [hd] at hd'
  injection hd' with e1 _
  have e2:its = its':=by simpa using congrArg Array.toList e1
  subst e2
  exact vals_fun r r'
end
def IteB (K:PySem.W.Frag) (k:Bool) (a:Addr):It :=
 ⟨fun i H => ∃ (xs:List V) (x:V),SqB K H k a xs∧xs[i]? = some x,fun i H v H' => ∃ T x o,v = .ref T∧H T = none∧o.dict = none∧H' = upd H T (.frz o (.tup [.int (i:Nat),x]))∧∀ xs,SqB K H k a xs→xs[i]? = some x,fun i H => ∃ xs:List V,SqB K H k a xs∧xs.length ≤ i⟩
theorem turn_enumB {P:Program} {w:World} {K:PySem.W.Frag} {elts:List Expr} {kk:Nat} {tpos:Pos} (k:Bool) (a e it:Addr) (hea:e ≠ a) (hia:a ≠ it) :
  Turn P w K (.Tuple elts kk tpos) (IteB K k a) [e,it] e (fun i h => (∃ old,IsEnum h e it ((i:Nat):Int) old)∧IterB k h it a i∧e ≠ it) where
 mem:=by simp
 obj:=fun i h ⟨⟨old,he⟩,hi,_⟩ b hb => by
  rcases List.mem_cons.mp hb with z | z
  ·rw [z]; exact ⟨_,he,fun v q => nomatch q⟩
  ·rw [List.mem_singleton.mp z]; exact hi.ob
 keep:=fun i h h' ⟨⟨old,he⟩,hi,hne⟩ q => ⟨⟨old,q e (by simp) _ he⟩,hi.to fun o z => q it (by simp) o z,hne⟩
 item:=by
  intro X hP hw hK hc i pins s σ H E I hf st hg
  subst hP hw hK
  obtain ⟨⟨old,he⟩,hit,hne⟩:=st
  obtain ⟨xs,x,hq,hx⟩:=hg
  obtain ⟨its,rv,raw⟩:=inv_seq I hq
  obtain ⟨u,hu,ru⟩:=rv.get hx
  have hel:e < s.heap.objs.size:=Heap.lt_size he
  have hil:it < s.heap.objs.size:=by obtain ⟨o,ho,_⟩:=hit.ob; exact Heap.lt_size ho
  have hlt:i < its.toArray.size:=by
   have:=(List.getElem?_eq_some_iff.mp hu).1
   simpa using this
  refine wpAny_pyNext_enum_itemC (drawsB (A:=X.A.in1) k (show X.A.in1.handled = none by simp [I.ok.hd hc]) it a hia its.toArray) he ⟨hit,raw⟩ hlt hne (by simp only [List.mem_cons,List.mem_singleton,List.not_mem_nil,or_false,not_or]; exact ⟨hne,hea⟩) fun y h' tk hy ho st' hT hsz hk => ?_
  have ey:y = u:=by
   have h1:its[i]? = some y:=by simpa using hy
   rw [hu] at h1; exact (Option.some.inj h1).symm
  subst ey
  refine ⟨_,rfl,wpAny_letOwnedTupleGo_enum (s:={ s with heap:=h',toks:=tk + 1 }) ho fun h'' he' sb => ?_⟩
  have hT2:h''.get? s.heap.objs.size = some { cls:=.type "tuple",data:=.seq #[.int i tk,y] }:=(sb.2 _ (Nat.ne_of_gt hel)).trans hT
  generalize hob:({ cls:=.type "tuple",data:=.seq #[.int i tk,y] }:Obj) = ob at hT2
  have new:ObjOk X.prog X.w (upd H s.heap.objs.size (.frz ob (.tup [.int (i:Nat),x]))) h'' s.heap.objs.size (.frz ob (.tup [.int (i:Nat),x])) :=
   ⟨hT2,by show 2 ≤ sizeLine; decide,[.int i tk,y],.cons ⟨_,rfl⟩ (.cons ru .nil),⟨_,hT2,by rw [← hob],_,by rw [← hob]⟩⟩
  have I1:Inv X pins σ (upd H s.heap.objs.size (.frz ob (.tup [.int (i:Nat),x]))) { s with heap:=h'',toks:=tk + 1 } :=
   I.turnedNew (ch:=[e,it]) (fun b o hb q => (sb.2 b (fun z => hb (by simp [z]))).trans (hk b o (fun z => hb (by simp [z])) (fun z => hb (by simp [z])) q)) hf (Nat.le_refl _) new
  refine ⟨.ref s.heap.objs.size,_,I1,rfl,⟨_,x,ob,rfl,I.hok.fresh (Nat.le_refl _),by rw [← hob],rfl,fun ys hy => by rw [← seq_inj I hq hy]; exact hx⟩,⟨⟨y,?_⟩,st'.1.to fun o q => (sb.2 it (Ne.symm hne)).trans q,hne⟩,fun b hb => ?_⟩
  ·have e1:((i + 1:Nat):Int) = (i:Int) + 1:=by omega
   rw [e1]; exact he'
  ·have hb':b < s.heap.objs.size:=by
    rcases List.mem_cons.mp hb with z | z
    ·rw [z]; exact hel
    ·rw [List.mem_singleton.mp z]; exact hil
   rw [upd_ne (Nat.ne_of_lt hb')]
   exact (hf b hb).1
 done:=by
  intro X hP hw hK hc i pins s σ H E I hf st hg
  subst hP hw hK
  obtain ⟨⟨old,he⟩,hit,hne⟩:=st
  obtain ⟨xs,hq,hx⟩:=hg
  obtain ⟨its,rv,raw⟩:=inv_seq I hq
  obtain ⟨f0,f1,f2,f3,f4,f5⟩:=hf it (by simp)
  have hl:=rv.length
  cases k with
  | false =>
   have hL:s.heap.IsList a its.toArray:=raw
   exact wpAny_pyNext_enum_end (I.ok.hd hc) he hit hL (by simp; omega) fun h' eb => ⟨rfl,I.turned (t':=s.toks) (fun b o hb q => eb b o hb q) f0 f1 f3 f4 f5⟩
  | true =>
   exact wpAny_pyNext_enum_endD (drawsLate (A:=X.A.in1) true (show X.A.in1.handled = none by simp [I.ok.hd hc]) it a its.toArray i (by simp; omega)) he ⟨rfl,hit,raw⟩ fun h' eb => ⟨rfl,I.turned (t':=s.toks) (fun b o hb q => eb b o hb q) f0 f1 f3 f4 f5⟩
 self:=fun A i s Q E ⟨⟨_,he⟩,_⟩ h => wpAny_pyIter_enum he h
theorem meets_enum1 {v:Value} {o:Obj} {H:Heap→Prop} (B:Begins v o H) :
  Meets (Builtin.«enumerate.__new__» ⟨[.type "enumerate",v],[]⟩) (fun _ R s => H s.heap ∧
   R (.ok (.ret (.ref (s.heap.push o).objs.size))) { s with heap:=(s.heap.push o).push { cls:=.type "enumerate",data:=.fields #[.none,.bool false,.ref s.heap.objs.size,rawInt 0,.none,.none] } }) :=
 .of_wp fun prog w A R s h => by
  obtain ⟨hp,g,d,tk,os⟩:=s; obtain ⟨h1,h⟩:=h
  have f_sub:=sub_enumerate
  have q1:∀ {A':Around} {E:Value→Shared→Prop} {Q:Value→Shared→Prop},Q (.ref hp.objs.size) ⟨hp.push o,g,d,tk,os⟩→wpAny (model prog w) A' (pyIter v) Q E ⟨hp,g,d,tk,os⟩ :=
   fun q => B.iter prog w _ _ ⟨hp,g,d,tk,os⟩ _ h1 q
  wp_walk using q1
  refine wpAny_stack_any fun st => wpAny_pure ?_
  split
  ·rename_i c _ _ _ _ _
   cases (c == Value.type "enumerate") <;>
   ·wp_walk using q1
    exact ⟨_,rfl,h⟩
  ·wp_walk using q1
   exact ⟨_,rfl,h⟩
section
variable {prog:Program} {w:World} {A:Around} {E:Value→Shared→Prop} {s:Shared}
theorem enum_start {v:Value} {o:Obj} {H:Heap→Prop} {Q:Value→Shared→Prop} (B:Begins v o H) (h1:H s.heap)
  (h:∀ h',IsEnum h' (s.heap.objs.size + 1) s.heap.objs.size 0 .none→h'.get? s.heap.objs.size = some o→h'.objs.size = s.heap.objs.size + 2 →
   (∀ b o,s.heap.get? b = some o→h'.get? b = some o)→Q (.ref (s.heap.objs.size + 1)) { s with heap:=h' }) :
  wpAny (model prog w) A (call (.type "enumerate") [v]) Q E s:=by
 refine callType_new F.called_enumerate (by decide) (F.typeCall_enumerate_1 _) (F.newCall_enumerate_1 _) (fun obj => F.args_object_init_2 obj _) F.entry_enumerate_new (meets_enum1 B) ⟨h1,?_⟩
 have z1:(s.heap.push o).objs.size = s.heap.objs.size + 1:=Heap.size_push ..
 show _∧_
 rw [z1]
 have he:IsEnum ((s.heap.push o).push { cls:=.type "enumerate",data:=.fields #[.none,.bool false,.ref s.heap.objs.size,rawInt 0,.none,.none] }) (s.heap.objs.size + 1) s.heap.objs.size 0 .none:=by
  have q:=Heap.get?_push_size (s.heap.push o) (o:={ cls:=.type "enumerate",data:=.fields #[.none,.bool false,.ref s.heap.objs.size,rawInt 0,.none,.none] }) rfl
  rw [z1] at q; exact q
 exact ⟨⟨_,he,rfl⟩,h _ he (Heap.get?_push_of_some _ (Heap.get?_push_size _ B.free)) (by rw [Heap.size_push,z1]) fun b o x => Heap.get?_push_of_some _ (Heap.get?_push_of_some _ x)⟩
end
theorem RawB.lt {k:Bool} {h:Heap} {a:Addr} {its:Array Value} (r:RawB k h a its):a < h.objs.size:=by
 cases k <;> obtain ⟨o,ho,_⟩:=r <;> exact Heap.lt_size ho
def iEnumB (K:PySem.W.Frag) (ta:TA):TI:=fun σ H R => ta σ H fun vs H1 => ∃ k a xs,vs = [.ref a]∧SqB K H1 k a xs∧R (IteB K k a) H1
theorem pi_enumB {X:Cx} {e:Expr} {ta:TA} {p pos tpos:Pos} {elts:List Expr} {kk:Nat} (hg:Gl X "enumerate") (hm:X.mg "enumerate" = none) (ha:PA X [e] ta) (hs:starEach [e] X.env = [(false,eval e X.env)]:=by rfl) :
  PI X (.Tuple elts kk tpos) (.Call (.Name "enumerate" p) [e] [] pos) (iEnumB X.K ta):=by
 refine ⟨fun pins s σ H R I h => ?_⟩
 refine Call_ (ld_blt I hg hm boot_enumerate (PyProof.Rows.callWith_type1 (thn (ha.run pos pins s σ H _ I h) fun us s1 ⟨vs,H1,I1,r1,k,a,xs,ex,hq,q⟩ => ?_) hs rfl))
 subst ex
 obtain ⟨u,rfl,ru⟩:=r1.one
 cases ru
 obtain ⟨its,rv,raw⟩:=inv_seq I1 hq
 have al:=raw.lt
 refine enum_start (beginsB k a its.toArray) raw fun h' he hit hsz hk => wpAny_pyIter_enum he ?_
 have I2:Inv X pins σ H1 { s1 with heap:=h' }:=I1.kept (t':=s1.toks) hk
 refine ⟨s1.heap.objs.size + 1,[s1.heap.objs.size + 1,s1.heap.objs.size],_,_,H1,rfl,I2,turn_enumB k a (s1.heap.objs.size + 1) s1.heap.objs.size (Nat.ne_of_gt (Nat.lt_succ_of_lt al)) (Nat.ne_of_lt al),⟨⟨.none,he⟩,itObj_iter hit,Nat.succ_ne_self _⟩,fun b hb => ?_,q⟩
 have hle:s1.heap.objs.size ≤ b:=by
  rcases List.mem_cons.mp hb with z | z
  ·rw [z]; exact Nat.le_succ _
  ·rw [List.mem_singleton.mp z]; exact Nat.le_refl _
 exact I1.fpOk hle (I1.hok.fresh hle)
end PLz
set_option maxHeartbeats 4000000
namespace PLz
open PySem PySem.Spec PyProof.Rows L2
end PLz
namespace PL
open PySem PySem.Spec PyProof.Rows L2 PLz
def srcP (p:PV) (S:Sto):Option (List PV × List (Nat × Ob)):=match p with
 | .tup xs => some (xs,[])
 | .fls xs => some (xs,[])
 | .loc l => match S[l]? with | some (.lst xs) => some (xs,[(l,.lst xs)]) | _ => none
 | _ => none
def enumAO:PV→Sto→Out Wk:=fun p S => match srcP p S with | some (xs,g) => .ok ⟨enumI xs,g⟩ S | none => .bad
def enumAM (m:EM PV):EM Wk:=fun τ S => bnd (m τ S) enumAO
@[simp] theorem e_enumAM (m:EM PV) (τ : En) (S:Sto):enumAM m τ S = bnd (m τ S) enumAO:=rfl
@[simp] theorem e_enumAO (p:PV) (S:Sto):enumAO p S = match srcP p S with | some (xs,g) => .ok ⟨enumI xs,g⟩ S | none => .bad:=rfl
@[simp] theorem srcP_tup (xs:List PV) (S:Sto):srcP (.tup xs) S = some (xs,[]):=rfl
@[simp] theorem srcP_fls (xs:List PV) (S:Sto):srcP (.fls xs) S = some (xs,[]):=rfl
@[simp] theorem srcP_loc (l:Nat) (S:Sto):srcP (.loc l) S = match S[l]? with | some (.lst xs) => some (xs,[(l,.lst xs)]) | _ => none:=rfl
section
variable {X:Cx} {W:WX} {a b:Expr} {ma mb:EM PV} {pos:Pos}
theorem src_ok {ι : List Addr} {H:Hp} {S:Sto} {p:PV} {x:V} {xs:List PV} {g:List (Nat × Ob)} (r:RSt X.prog X.w X.K X.mg ι H S) (q:Rp X.K ι H p x) (h:srcP p S = some (xs,g)) :
  ∃ k ad vs,x = .ref ad∧SqB X.K H k ad vs∧∀ ι2 H2 S2,ExtW ι H ι2 H2→RSt X.prog X.w X.K X.mg ι2 H2 S2→(∀ p ∈ g,S2[p.1]? = some p.2)→∃ vs2,SqB X.K H2 k ad vs2∧RpL X.K ι2 H2 xs vs2:=by
 cases p with
 | tup ys =>
  cases h
  obtain ⟨ad,vs,rfl,h1,h2⟩:=q
  exact ⟨true,ad,vs,rfl,h1.seq,fun ι2 H2 S2 e _ _ => ⟨vs,(h1.upW e).seq,RpL.upW e _ _ h2⟩⟩
 | fls ys =>
  cases h
  obtain ⟨ad,vs,rfl,h1,h2⟩:=q
  exact ⟨false,ad,vs,rfl,h1.seq,fun ι2 H2 S2 e _ _ => ⟨vs,(h1.upW e).seq,RpL.upW e _ _ h2⟩⟩
 | loc l =>
  rw [srcP_loc] at h
  split at h
  ·rename_i ys eS
   cases h
   obtain ⟨ad,rfl,h1⟩:=q
   obtain ⟨vs,h2,h3⟩:=r.obj l ad _ h1 eS
   refine ⟨false,ad,vs,rfl,.of h2,fun ι2 H2 S2 e r2 ok => ?_⟩
   obtain ⟨vs2,h4,h5⟩:=r2.obj l ad _ (e.pre l ad h1) (ok (l,.lst xs) (by simp))
   exact ⟨vs2,.of h4,h5⟩
  ·cases h
 | _ => cases h
theorem ri_enumA {k:Nat} {elts:List Expr} {p tpos:Pos} (hg:Gl X "enumerate") (hm:X.mg "enumerate" = none) (ha:RE X W a ma) (hs:starEach [a] X.env = [(false,eval a X.env)]:=by rfl):RI X W (.Tuple elts k tpos) (.Call (.Name "enumerate" p) [a] [] pos) (enumAM ma) :=
 ⟨pi_weak (pi_enumB hg hm (pa_cons ha.pe pa_nil hs) hs) fun σ H R ⟨ι,τ,S,r,ρ,pk⟩ => ⟨ι,τ,S,r,ρ,pk.next.mono fun x H1 ⟨p,ι1,S1,e1,r1,q1,pk1⟩ => by
  rw [e_enumAO] at pk1
  cases hsrc:srcP p S1 with
  | none => rw [hsrc] at pk1; exact pk1.elim
  | some z =>
   obtain ⟨xs,g⟩:=z
   rw [hsrc] at pk1
   obtain ⟨kd,ad,vs,rfl,h1,h2⟩:=src_ok r1 q1 hsrc
   refine ⟨kd,ad,vs,rfl,h1,pk1 ι1 H1 _ .refl r1 fun i ι2 H2 S2 e r2 ok => ?_⟩
   obtain ⟨vs2,h3,h4⟩:=h2 ι2 H2 S2 e r2 ok
   have hlen:({ items:=enumI xs,g:=g }:Wk).items.length = xs.length:=by show (enumI xs).length = _; unfold enumI; simp
   rw [hlen]
   refine ⟨fun hi => ?_,fun hi => ⟨vs2,h3,by rw [← h4.length]; exact hi⟩⟩
   obtain ⟨p,hp⟩:=get_len hi
   obtain ⟨v,hv,rv⟩:=h4.get hp
   refine ⟨⟨vs2,v,h3,hv⟩,fun x H3 ⟨T,y,o,ex,hT,ho,eH,hf⟩ => ?_⟩
   subst ex; subst eH
   have e1:=hf vs2 h3
   rw [hv] at e1; cases e1
   obtain ⟨E,r3⟩:=r2.tup (ho:=.frz o (.tup [.int (i:Nat),v])) hT
   exact ⟨_,enumI_at hp,E,r3,T,_,rfl,.inl ⟨o,upd_same,ho⟩,⟨.int (i:Nat),[v],rfl,rfl,v,[],rfl,rv.up E,rfl⟩⟩⟩⟩
end
end PL
namespace PL
open PySem PySem.Spec PyProof.Rows L2 PLz
theorem enumI_map {α : Type} (f : α→PV) (xs:List α):enumI (xs.map f) = xs.zipIdx.map fun p => .tup [.int (p.2:Nat),f p.1]:=by
 unfold enumI
 rw [List.zipIdx_map,List.map_map]
 rfl
theorem zipIdx_split {α : Type} {xs:List α} {dn rs:List (α × Nat)} {p : α × Nat} (h:xs.zipIdx = dn ++ p :: rs):p.2 = dn.length∧xs[dn.length]? = some p.1:=by
 have h1:(xs.zipIdx)[dn.length]? = some p:=by rw [h]; simp
 rw [List.getElem?_zipIdx] at h1
 cases q:xs[dn.length]? with
 | none => rw [q] at h1; cases h1
 | some x =>
  rw [q] at h1
  have:=Option.some.inj h1
  subst this
  exact ⟨by simp,rfl⟩
theorem forE_wp {α : Type} {N:En→Sto→Prop} {T:PV→Sto→Prop} {R:Str→PV→En→Sto→Prop} {t:Wk} {g:GM} {b:SM} (f : α→PV) {xs:List α} (Inv:Nat→En→Sto→Prop) {τ : En} {S:Sto} (h0:Inv 0 τ S)
  (hs:∀ i x τ S (J:En→Sto→Prop),xs[i]? = some x→Inv i τ S→(∀ τ' S',Inv (i + 1) τ' S'→J τ' S')→t.ok S∧∃ τ1,g (.tup [.int (i:Nat),f x]) τ = some τ1∧wpS (b τ1 S) J T R)
  (he:∀ τ S,Inv xs.length τ S→t.ok S∧N τ S):wpS (forL t g b (enumI (xs.map f)) τ S) N T R:=by
 rw [enumI_map]
 refine forM_wp (fun p : α × Nat => PV.tup [.int (p.2:Nat),f p.1]) (fun dn τ S => Inv dn.length τ S) h0 ?_ ?_
 ·intro dn p rs τ S J e h hJ
  obtain ⟨e1,e2⟩:=zipIdx_split e
  rw [e1]
  exact hs _ p.1 τ S J e2 h fun τ' S' k => hJ τ' S' (by simpa using k)
 ·intro τ S h
  exact he τ S (by simpa using h)
theorem acc_filter {α : Type} {P:List PV→Sto→Prop} {R:Str→PV→Sto→Prop} {t:Wk} {g:GM} {st:List PV→En→Sto→Out (List PV)} (i f : α→PV) (p : α→Bool) {xs:List α} {acc:List PV} {τ : En} {S:Sto} (hok:t.ok S) (hl:acc.length + xs.length ≤ 16777216)
  (hs:∀ x ∈ xs,∀ (acc:List PV) (J:List PV→Sto→Prop),acc.length < 16777216→J (if p x = true then acc ++ [f x] else acc) S→∃ τ1,g (i x) τ = some τ1∧wp (st acc τ1 S) J R)
  (he:P (acc ++ (xs.filter p).map f) S):wp (accL t g st acc (xs.map i) τ S) P R:=by
 induction xs generalizing acc with
 | nil => rw [List.map_nil,accL_nil,if_pos hok]; simpa using he
 | cons x xs ih =>
  simp only [List.length_cons] at hl
  obtain ⟨τ1,h1,h2⟩:=hs x (by simp) acc (fun a S => wp (accL t g st a (xs.map i) τ S) P R) (by omega) (by
   by_cases hp:p x = true
   ·rw [if_pos hp]
    exact ih (acc:=acc ++ [f x]) (by simp; omega) (fun y hy => hs y (by simp [hy])) (by simpa [List.filter_cons,hp] using he)
   ·rw [if_neg hp]
    exact ih (acc:=acc) (by omega) (fun y hy => hs y (by simp [hy])) (by simpa [List.filter_cons,hp] using he))
  simp only [List.map_cons,accL,if_pos hok,h1]
  rw [wp_bnd]
  exact h2
end PL
set_option maxHeartbeats 4000000
namespace PL
open PySem PySem.Spec PyProof.Rows L2
section
variable {X:Cx} {W:WX} {e se:Expr} {me ms:EM PV} {p3 pos:Pos}
end
section
variable {P:PV→Sto→Prop} {R:Str→PV→Sto→Prop} {S:Sto} {l:Nat} {xs:List PV}
end
end PL
namespace PL
open PySem PySem.Spec PyProof.Rows L2
section
variable {X:Cx} {W:WX} {e:Expr} {es:List Expr} {ma:EM PV} {pos:Pos}
open PySem.W in
theorem star_items {s:Shared} {l:Addr} {items:Array Value} {n:Nat} {Q:List Value→Shared→Prop} (hh:X.A.handled = none) (hl:IsTup s.heap l items) (hn:n ≤ items.size) (hz:items.size ≤ 16384)
  (h:∀ (h':Heap) (tk:Nat),(∀ b o,s.heap.get? b = some o→h'.get? b = some o)→Q (items.toList.take n ++ [.ref h'.objs.size]) { s with heap:=h'.push { cls:=.type "list",data:=.seq (items.toList.drop n).toArray },toks:=tk }) :
  wpAny (model X.prog X.w) X.A (unpackItems (.ref l) (n + 1) (some n)) Q X.xe s:=by
 have hlt:l ≠ s.heap.objs.size:=by obtain ⟨o,ho,_⟩:=hl; exact Nat.ne_of_lt (Heap.lt_size ho)
 unfold unpackItems
 refine wpAny_bind ?_
 unfold notIterableAtAll
 refine wpAny_bind (wpAny_specialOf hl.typeIs slot_tuple_iter.lookup ?_)
 refine wpAny_pure ?_
 simp only [Bool.false_eq_true,if_false]
 refine wpAny_bind (wpAny_holding (iter_tuple hl ?_))
 refine wpAny_bind (wpAny_holding (draw_tuple hlt n 0 _ _ ⟨_,Heap.get?_push_size _ rfl,rfl,rfl⟩ (hl.push _) (by omega) fun h₁ hit₁ hs₁ => ?_))
 have hl₁ : IsTup h₁ l items:=(hl.push _).extBut hs₁.extBut hlt
 rw [Nat.zero_add] at hit₁
 have hit₁':=hit₁
 obtain ⟨oi,hoi,_⟩:=hit₁'
 have hl₁':=hl₁
 obtain ⟨ol,hol,_⟩:=hl₁'
 rw [List.drop_zero]
 have hfl:(items.toList.take n).length = n:=by rw [List.length_take,Array.length_toList]; omega
 rw [if_neg (show ¬ ((items.toList.take n).length < n) by rw [hfl]; omega)]
 refine wpAny_bind (wpAny_holding (kun_collect (s:={ s with heap:=h₁ }) (T := "tuple_iterator") (.inr (.inr (.inr rfl))) (Walks.tuple (A:=X.A.in1) hh s.heap.objs.size l hlt items) (fun j u st => st.1.typeIs) (k:=n) (by omega) ⟨hit₁,hl₁⟩ (Heap.lt_size hoi) (Heap.lt_size hol) (fun h₂ tk hk => ?_) (by rw [sizeLine_eq]; omega)))
 have hrl:(items.toList.drop n).length = items.size - n:=by rw [List.length_drop,Array.length_toList]
 have hmid:(items.toList.drop n).length - (n + 1 - 1 - n) = items.size - n:=by rw [hrl]; omega
 show wpAny _ _ (if (items.toList.drop n).length < n + 1 - 1 - n then _ else _) _ _ _
 rw [if_neg (by rw [hrl]; omega)]
 show wpAny _ _ (newList ((items.toList.drop n).take ((items.toList.drop n).length - (n + 1 - 1 - n))) >>= fun d => pure (items.toList.take n ++ [d] ++ (items.toList.drop n).drop ((items.toList.drop n).length - (n + 1 - 1 - n)))) _ _ _
 rw [hmid,← hrl,List.take_length,List.drop_length]
 have he:∀ b o,s.heap.get? b = some o→h₂.get? b = some o:=fun b o e => hk b o (Nat.ne_of_lt (Heap.lt_size e)) (hs₁.extBut b o (Nat.ne_of_lt (Heap.lt_size e)) (Heap.get?_push_of_some _ e))
 refine wpAny_bind (wpAny_newList ?_ (by rw [sizeLine_eq,hrl]; omega))
 refine wpAny_pure ?_
 rw [List.append_nil]
 exact h h₂ tk he
def gStar (K:PySem.W.Frag) (n:Nat) (t:TGs):TG:=fun v σ H Q => ∃ a xs,v = .ref a∧SqT K H a xs∧n ≤ xs.length∧xs.length ≤ 16384∧∀ p,H p = none→t (xs.take n ++ [.ref p]) σ (upd H p (.lst (xs.drop n))) Q
theorem pgs_as {ts ts':List Expr} {t:TGs} (h:PGs X ts' t) (e:(assignEach ts X.env).map (·.2) = (assignEach ts' X.env).map (·.2)):PGs X ts t:=⟨fun pins s σ H vs us Q I r q => by rw [e]; exact h.run pins s σ H vs us Q I r q⟩
theorem pg_star {k n:Nat} {t:TGs} (hc:X.calm = true) (h:PGs X es t) (hn:(assignEach es X.env).length = n + 1) (hst:(assignEach es X.env).findIdx? (·.1) = some n):PG X (.Tuple es k pos) (gStar X.K n t):=by
 refine ⟨fun pins s σ H v u Q I r q => ?_⟩
 obtain ⟨a,xs,rfl,hx,hl,hz,q⟩:=q
 cases r
 obtain ⟨its,rv,ht,_⟩:=I.tuple hx
 have hlen:=rv.length
 unfold assign
 refine wpAny_bind (wpAny_standAt ?_)
 unfold unpack
 simp only [hn,hst]
 refine wpAny_bind (wpAny_holding (star_items (n:=n) (I.ok.hd hc) ht (by rw [List.size_toArray]; omega) (by rw [List.size_toArray]; omega) fun h' tk hk => ?_))
 have I2:Inv X pins σ H { s with heap:=h' }:=I.kept (t':=s.toks) hk
 have rt:Vals (xs.take n) (its.take n):=rv.take n
 have rd:Vals (xs.drop n) (its.drop n):=rv.drop n
 have I3:=I2.laid (t':=tk) (o:=.lst (xs.drop n)) (h':=h'.push { cls:=.type "list",data:=.seq (its.drop n).toArray }) (a:=h'.objs.size) (fun b ob q => Heap.get?_push_of_some _ q) (Nat.le_refl _) ⟨by rw [List.length_drop]; rw [sizeLine_eq]; omega,_,0,rd,Heap.get?_push_size _ rfl⟩
 exact h.run pins _ σ _ _ _ Q I3 (rt.append (.cons (show RelV (.ref h'.objs.size) (.ref h'.objs.size) from rfl) .nil)) (q _ (I2.hok.fresh (Nat.le_refl _)))
def starS (n:Nat) (m:EM PV) (g:GMs):SM:=fun τ S => bndS (m τ S) τ fun v S1 => match v with
 | .tup xs => if n ≤ xs.length∧xs.length ≤ 16384 then (match g (xs.take n ++ [.loc S1.length]) τ with | some τ1 => .nx τ1 (S1 ++ [.lst (xs.drop n)]) | none => .bad) else .bad
 | _ => .bad
theorem rs_star {k n:Nat} {es es':List Expr} {pos':Pos} {g:GMs} {sl:List Nat} (hc:X.calm = true) (he:RE X W e ma) (hg:RGs X es' g sl)
  (ee:(assignEach es X.env).map (·.2) = (assignEach es' X.env).map (·.2):=by rfl) (hn:(assignEach es X.env).length = n + 1:=by rfl) (hst:(assignEach es X.env).findIdx? (·.1) = some n:=by rfl)
  (hs:swapsWithSole [.Tuple es k pos'] e pos.line X.env = pure false:=by rfl) (hw:swappedStores [.Tuple es k pos'] e X.env = pure none:=by rfl)
  (h1:(assignEach [.Tuple es k pos'] X.env).map (·.2) = [assign (.Tuple es k pos') X.env]:=by rfl):RS X W (.Assign [.Tuple es k pos'] e pos) (starS n ma g) :=
 ⟨ps_weak (ps_asg he.pe (pg_star hc (pgs_as hg.pgs ee) hn hst) hs hw h1) fun D σ H ⟨ι,τ,S,r,ρ,pk⟩ => by
  refine ⟨ι,τ,S,r,ρ,(PkS.next (R:=rV X) ρ pk).mono fun x H1 ⟨p,ι1,S1,e1,r1,q1,pk1⟩ => ?_⟩
  cases p with
  | tup xs =>
   simp only at pk1
   split at pk1
   ·rename_i hb
    obtain ⟨a,vs,rfl,h1,h2⟩:=q1
    refine ⟨a,vs,rfl,h1.seq,by rw [← h2.length]; exact hb.1,by rw [← h2.length]; exact hb.2,fun p hp => ?_⟩
    split at pk1
    ·rename_i τ1 hg1
     obtain ⟨E,r4,q4⟩:=r1.new_lst hp (h2.drop n)
     refine ⟨_,τ,_,_,τ1,r4,(ρ.up e1).up E,?_,hg1,fun σ' ρ' _ => pk1 _ _ σ' E r4 ρ'⟩
     exact ((h2.take n).up E).app (.one q4)
    ·exact pk1.elim
   ·exact pk1.elim
  | _ => exact pk1.elim⟩
end
section
variable {N:En→Sto→Prop} {T:PV→Sto→Prop} {R:Str→PV→En→Sto→Prop} {τ : En} {S:Sto}
def starO (n:Nat) (g:GMs) (τ : En):PV→Sto→OS:=fun v S1 => match v with
 | .tup xs => if n ≤ xs.length∧xs.length ≤ 16384 then (match g (xs.take n ++ [.loc S1.length]) τ with | some τ1 => .nx τ1 (S1 ++ [.lst (xs.drop n)]) | none => .bad) else .bad
 | _ => .bad
@[simp] theorem e_starS (n:Nat) (m:EM PV) (g:GMs) (τ : En) (S:Sto):starS n m g τ S = bndS (m τ S) τ (starO n g τ):=rfl
theorem star_wp {n:Nat} {g:GMs} {xs:List PV} {τ1:Nat→En} (h1:n ≤ xs.length) (h2:xs.length ≤ 16384) (hg:∀ l,g (xs.take n ++ [.loc l]) τ = some (τ1 l)) (h:∀ l S',S'[l]? = some (.lst (xs.drop n))→Keep [] S S'→S.length ≤ l→N (τ1 l) S') :
  wpS (starO n g τ (.tup xs) S) N T R:=by
 simp only [starO,h1,h2,and_self,if_true,hg]
 exact h _ _ app_new .app (Nat.le_refl _)
end
end PL
namespace PL
open PySem PySem.Spec PyProof.Rows L2
section
variable {X:Cx} {W:WX} {e o f:Expr} {ma mo mf:EM PV} {pos:Pos}
def gP (X:Cx) (W:WX) (kes:List (EM PV × EM PV)):List (TE × TE):=kes.map fun ab => (gE X W (rV X) ab.1,gE X W (rV X) ab.2)
end
section
variable {P:PV→Sto→Prop} {R:Str→PV→Sto→Prop} {τ : En} {S:Sto}
end
end PL
namespace PL
open PySem PySem.Spec PyProof.Rows L2
section
variable {X:Cx} {W:WX} {a e o f:Expr} {es:List Expr} {ma mo mf:EM PV} {mas mks:EM (List PV)} {pos:Pos} {kws:List Keyword}
theorem pe_callKw {CX:CXT} {x:Str} {p:Pos} {k:Nat} {f:Addr} {fd:FuncData} {ps ks:List Str} {sp:Sp} {E:L2.St→XK} {t:TA} {g:List Value→List Value→List Value} {gV:List V→List V→List V} (F:FnOk X.prog X.w X.K X.mg X.base CX k f fd ps sp) (hr:Room k X.A) (hg:Gl X x) (hm:X.mg x = some (.ref f)) (hk:PySem.W.keepIn X.K (.ref f) = true) (hb:KBinds X.K fd ps ks g gV) (hx:∀ σ,PassesAt CX X σ (E σ))
  (hkw:PK X kws t) (hall:(backToKw pos (keywordEach kws X.env)).all (·.1.isSome) = true:=by rfl) (hks:(backToKw pos (keywordEach kws X.env)).filterMap (·.1) = ks:=by rfl)
  (hdb:(x == ("__debug__" : Str)) = false:=by decide)
  (hpl:((backTo pos (starEach [] X.env)).any (·.1) || (backToKw pos (keywordEach kws X.env)).any (·.1.isNone)) = false:=by rfl) :
  PE X (.Call (.Name x p) [] kws pos) (fun σ H Q => t σ H fun zs H1 => sp (gV [] zs) H1 Q (E σ)):=by
 refine ⟨fun pins s σ H Q I h => ?_⟩
 refine wpAny_Call_Name_kw (ld_glob I hg hm ?_ hdb)
 refine PySem.W.callWith_KW0 (first:=[]) (h₀:=X.base) I.ok.mod.kin hk hall (thn (hkw.run pos pins s σ H _ I h) fun ws s2 ⟨zs,H2,I2,r,q2⟩ => ⟨I2.kIn,?_⟩) hpl
 rw [hks,List.append_nil]
 have r1:Vals ([]:List V) ([]:List Value):=.nil
 have r2:=hb.rel r1 r
 have hl:(g [] ws).length = ps.length:=by rw [← r2.length]; exact F.len _ _ _ _ q2
 refine wpAny_call (codeAny_mono (F.run X.A X.stack s2 H2 ⟨[],ks.zip ws⟩ (g [] ws) (gV [] zs) Q (E σ) hr I2.env0 (hb.to s2 [] ws I2.kIn hl) r2 q2) fun r s' hq => ?_)
 cases r with
 | error e => exact hx σ pins H2 s2 e s' I2 hq
 | ok fl =>
  cases fl with
  | ret u => exact I2.after hq
  | next => exact False.elim hq
  | brk => exact False.elim hq
  | cont => exact False.elim hq
def callKD (F:FM) (g:List PV→List PV) (ms:EM (List PV)):EM PV:=fun τ S => bnd (ms τ S) fun ps S1 => F (g ps) S1
theorem re_callKw {x:Str} {p:Pos} {n k:Nat} {F:FM} {f:Addr} {fd:FuncData} {ps ks:List Str} {g:List Value→List Value→List Value} {gV:List V→List V→List V} {gP:List PV→List PV} (G:FnOk X.prog X.w X.K X.mg X.base (L2.CX X.prog X.w) k f fd ps (spD X.prog X.w X.K X.mg n F)) (hr:Room k X.A) (hg:Gl X x) (hm:X.mg x = some (.ref f)) (hk:PySem.W.keepIn X.K (.ref f) = true) (hb:KBinds X.K fd ps ks g gV)
  (tk:Takes X W) (hgp:∀ ι H qs zs,qs.length = n→RpL X.K ι H qs zs→RpL X.K ι H (gP qs) (gV [] zs)∧(gP qs).length = n)
  (ha:RK X W kws mas) (hn:∀ τ S qs S',mas τ S = .ok qs S'→qs.length = n) (hall:(backToKw pos (keywordEach kws X.env)).all (·.1.isSome) = true:=by rfl) (hks:(backToKw pos (keywordEach kws X.env)).filterMap (·.1) = ks:=by rfl)
  (hdb:(x == ("__debug__" : Str)) = false:=by decide)
  (hpl:((backTo pos (starEach [] X.env)).any (·.1) || (backToKw pos (keywordEach kws X.env)).any (·.1.isNone)) = false:=by rfl) :
  RE X W (.Call (.Name x p) [] kws pos) (callKD F gP mas):=by
 refine ⟨pe_weak (pe_callKw (E:=WE W) G hr hg hm hk hb (fun σ => passAt tk σ) ha.pk hall hks hdb hpl) fun σ H Q ⟨ι,τ,S,r,ρ,pk⟩ => ⟨ι,τ,S,r,ρ,?_⟩⟩
 have hn':=hn τ S
 unfold callKD at pk
 cases hm':mas τ S with
 | bad => rw [hm'] at pk; exact pk.elim
 | er c p S' => rw [hm'] at pk; exact pk
 | ok qs S1 =>
  have hl:=hn' qs S1 hm'
  rw [hm'] at pk
  show ∀ ι' H' x,Ext ι H ι' H'→RSt X.prog X.w X.K X.mg ι' H' S1→RpL X.K ι' H' qs x→spD X.prog X.w X.K X.mg n F (gV [] x) H' Q (WE W σ)
  intro ι' H' zs e' r' q'
  obtain ⟨qv,ln⟩:=hgp ι' H' qs zs hl q'
  exact call_wish r' qv ln (Pk.up (o:=F (gP qs) S1) pk e')
end
section
variable {S:Sto}
end
end PL
namespace PL
open PySem PySem.Spec PyProof.Rows L2
def ckO (F:FM) (g:List PV→List PV):List PV→Sto→Out PV:=fun ps S => F (g ps) S
@[simp] theorem e_callKD (F:FM) (g:List PV→List PV) (ms:EM (List PV)) (τ : En) (S:Sto):callKD F g ms τ S = bnd (ms τ S) (ckO F g):=rfl
@[simp] theorem e_ckO (F:FM) (g:List PV→List PV) (ps:List PV) (S:Sto):ckO F g ps S = F (g ps) S:=rfl
end PL
namespace PL
open PySem PySem.Spec PyProof.Rows L2
section
variable {X:Cx} {W:WX} {e:Expr} {ma:EM PV} {pos:Pos}
end
end PL
namespace PL
open PySem PySem.Spec PyProof.Rows L2
section
variable {X:Cx} {W:WX} {e o i:Expr} {ma mo mi:EM PV} {pos:Pos}
end
section
variable {S:Sto} {τ : En}
end
end PL
namespace PL
open PySem PySem.Spec PyProof.Rows L2
section
variable {X:Cx} {W:WX} {D:Addr} {e o tg iter:Expr} {pos:Pos}
structure Dd (K:PySem.W.Frag) (ι : List Addr) (H:Hp) (D:Addr) (acc:List (Key × PV)):Prop where
 nin:D ∉ ι
 obj:∃ vs,H D = some (.dK vs)∧RpF K ι H acc vs
theorem Dd.up {ι ι':List Addr} {H H':Hp} {D:Addr} {acc:List (Key × PV)} (d:Dd X.K ι H D acc) (e:Ext ι H ι' H'):Dd X.K ι' H' D acc:=by
 obtain ⟨vs,h1,h2⟩:=d.obj
 refine ⟨fun hm => ?_,vs,e.fr D _ h1 d.nin,h2.up e⟩
 rcases e.new D hm with q | q
 ·exact d.nin q
 ·rw [h1] at q; cases q
theorem extW_updD {D:Addr} {ι : List Addr} {H:Hp} {vs ws:List (Key × V)} (h:H D = some (.dK vs)):ExtW ι H ι (upd H D (.dK ws)) :=
 ⟨fun _ _ h => h,fun a xs e => by rw [upd_ne (fun z => by subst z; rw [h] at e; cases e)]; exact e,fun a o u e => by rw [upd_ne (fun z => by subst z; rw [h] at e; cases e)]; exact e⟩
theorem Dd.write {ι1 ι : List Addr} {H1 H:Hp} {S:Sto} {D:Addr} {vs ws:List (Key × V)} {acc:List (Key × PV)} (hD:H1 D = none) (e:Ext ι1 H1 ι H) (r:RSt X.prog X.w X.K X.mg ι H S) (nin:D ∉ ι) (h:H D = some (.dK vs)) (h2:RpF X.K ι H acc ws) :
  Ext ι1 H1 ι (upd H D (.dK ws))∧RSt X.prog X.w X.K X.mg ι (upd H D (.dK ws)) S∧Dd X.K ι (upd H D (.dK ws)) D acc∧ExtW ι H ι (upd H D (.dK ws)):=by
 have eb:ExtW ι H ι (upd H D (.dK ws)):=extW_updD h
 refine ⟨⟨e.pre,fun a o q n => ?_,e.new,fun a xs q => ?_,fun a o u q => ?_⟩,⟨r.len,r.nd,fun l a o e1 e2 => ?_⟩,⟨nin,ws,upd_same,RpF.upW eb h2⟩,eb⟩
 ·rw [upd_ne (ne_of_none q hD)]; exact e.fr a o q n
 ·rw [upd_ne (ne_of_none q hD)]; exact e.tups a xs q
 ·rw [upd_ne (ne_of_none q hD)]; exact e.frzs a o u q
 ·have hne:a ≠ D:=fun z => nin (z ▸ List.mem_of_getElem? e1)
  have ho:=r.obj l a o e1 e2
  have k:upd H D (.dK ws) a = H a:=upd_ne hne
  cases o with
  | lst xs => obtain ⟨vs,q,r⟩:=ho; exact ⟨vs,k.trans q,RpL.upW eb _ _ r⟩
  | dct xs => obtain ⟨vs,q,r⟩:=ho; exact ⟨vs,k.trans q,RpF.upW eb r⟩
  | ins C fs => obtain ⟨Ca,dx,ws,m,q,r⟩:=ho; exact ⟨Ca,dx,ws,m,k.trans q,RpF.upW eb r⟩
  | dtp xs => obtain ⟨vs,q,z,r⟩:=ho; exact ⟨vs,k.trans q,fun x hx => (z x hx).upW eb,RpF.upW eb r⟩
  | tab nm q => exact ⟨TabZ.to ho.1 k eb.frzs,ho.2⟩
  | exc C p => obtain ⟨oe,Ca,dd,x,q,m,c1,c2,c3,nd,hd,r⟩:=ho; exact ⟨oe,Ca,dd,x,k.trans q,m,c1,c2,c3,nd,(upd_ne fun z => by rw [z,h] at hd; cases hd).trans hd,Rp.upW eb _ _ r⟩
  | ndt xs => obtain ⟨vs,q,z,r⟩:=ho; exact ⟨vs,k.trans q,fun x hx => ⟨(z x hx).1,(z x hx).2.mono eb.frzs⟩,RpF.upW eb r⟩
theorem Dd.adopt {ι1 ι : List Addr} {H1 H:Hp} {S:Sto} {D:Addr} {acc:List (Key × PV)} (hD:H1 D = none) (e:Ext ι1 H1 ι H) (r:RSt X.prog X.w X.K X.mg ι H S) (d:Dd X.K ι H D acc) :
  Ext ι1 H1 (ι ++ [D]) H∧RSt X.prog X.w X.K X.mg (ι ++ [D]) H (S ++ [.dct acc])∧Rp X.K (ι ++ [D]) H (.loc S.length) (.ref D):=by
 have pre:∀ (l:Nat) (a:Addr),ι[l]? = some a→(ι ++ [D])[l]? = some a:=fun l a h => by
  rw [List.getElem?_append_left (List.getElem?_eq_some_iff.mp h).1]; exact h
 have eb:ExtW ι H (ι ++ [D]) H:=⟨pre,fun _ _ h => h,fun _ _ _ h => h⟩
 obtain ⟨vs,h1,h2⟩:=d.obj
 refine ⟨⟨fun l a h => pre l a (e.pre l a h),e.fr,fun a m => ?_,e.tups,e.frzs⟩,⟨by simp [r.len],List.nodup_append.mpr ⟨r.nd,by simp,fun x hx y hy => by simp at hy; subst hy; exact fun z => d.nin (z ▸ hx)⟩,fun l' a' o' e1 e2 => ?_⟩,D,rfl,by rw [← r.len]; simp⟩
 ·rcases List.mem_append.mp m with q | q
  ·exact e.new a q
  ·have:a = D:=by simpa using q
   subst this; exact .inr hD
 ·by_cases hl:l' < ι.length
  ·rw [List.getElem?_append_left hl] at e1
   rw [List.getElem?_append_left (by rw [← r.len]; exact hl)] at e2
   have ho:=r.obj l' a' o' e1 e2
   cases o' with
   | lst xs => obtain ⟨vs,q,r⟩:=ho; exact ⟨vs,q,RpL.upW eb _ _ r⟩
   | dct xs => obtain ⟨vs,q,r⟩:=ho; exact ⟨vs,q,RpF.upW eb r⟩
   | ins C fs => obtain ⟨Ca,dx,ws,m,q,r⟩:=ho; exact ⟨Ca,dx,ws,m,q,RpF.upW eb r⟩
   | dtp xs => obtain ⟨vs,q,z,r⟩:=ho; exact ⟨vs,q,fun x hx => (z x hx).upW eb,RpF.upW eb r⟩
   | tab nm q => exact ⟨TabZ.to ho.1 rfl eb.frzs,ho.2⟩
   | exc C p => obtain ⟨oe,Ca,dd,x,q,m,c1,c2,c3,nd,hd,r⟩:=ho; exact ⟨oe,Ca,dd,x,q,m,c1,c2,c3,(fun z => (List.mem_append.mp z).elim nd fun z => by (have z:dd = D:=by simpa using z); rw [z,h1] at hd; cases hd),hd,Rp.upW eb _ _ r⟩
   | ndt xs => obtain ⟨vs,q,z,r⟩:=ho; exact ⟨vs,q,fun x hx => ⟨(z x hx).1,(z x hx).2.mono eb.frzs⟩,RpF.upW eb r⟩
  ·rw [List.getElem?_append_right (by omega)] at e1
   rw [List.getElem?_append_right (by rw [← r.len]; omega)] at e2
   have h0:l' - ι.length = 0:=by
    have:=(List.getElem?_eq_some_iff.mp e1).1
    simp at this; omega
   have h0':l' - S.length = 0:=by rw [← r.len]; exact h0
   rw [h0] at e1; rw [h0'] at e2
   simp at e1 e2
   subst e1; subst e2
   exact ⟨vs,h1,RpF.upW eb h2⟩
end
section
variable {τ : En} {S:Sto}
end
end PL
namespace PL
open PySem PySem.Spec PyProof.Rows L2
section
variable {K:PySem.W.Frag} {mg:Str→Option Value} {ι : List Addr} {H:Hp} {X:Cx}
end
section
variable {X:Cx}
end
end PL
namespace PLz
open PySem PySem.Spec PyProof.Rows L2
section
variable {prog:Program} {w:World} {A:Around} {E:Value→Shared→Prop} {s:Shared}
end
end PLz
set_option maxHeartbeats 4000000
namespace PLs
open PySem PySem.Spec PyProof.Rows L2
section
variable {B:Cx} {elt:Expr} {gens:List Comprehension} {bsc:Scope} {epos:Pos} {d:Nat} {it:Addr} {acc:Value} {tg:Expr} {body:Sem Unit} {p:Pos} {R:Result→Shared→Prop}
end
end PLs
namespace PLs
open PySem PySem.Spec PyProof.Rows L2
section
variable {X:Cx}
variable {el t0 i0 t1 i1:Expr} {bs:Scope} {p:Pos} {wi wi1:TI} {g g1:TG} {te:TE} {own:List (Str × Nat)} {vs1:List Nat}
end
end PLs
set_option maxHeartbeats 4000000
namespace PL
open PySem PySem.Spec PyProof.Rows L2 PLs
theorem setO_stays {P:Program} {w:World} {K:PySem.W.Frag} {mg:Str→Option Value} {ι1 ι : List Addr} {H1 H:Hp} {S:Sto} {D:Addr} {L L':List (Addr × List Key)} (hD:H1 D = none) (e:Ext ι1 H1 ι H) (r:RSt ΩP Ωw K mg ι H S) (nin:D ∉ ι) (h:H D = some (SetO P w D L)) :
  Ext ι1 H1 ι (upd H D (SetO P w D L'))∧RSt ΩP Ωw K mg ι (upd H D (SetO P w D L')) S∧ExtW ι H ι (upd H D (SetO P w D L')):=by
 have ne:∀ {a:Addr} {o:HO},H1 a = some o→a ≠ D:=fun q z => by rw [z,hD] at q; cases q
 have eb:ExtW ι H ι (upd H D (SetO P w D L')):=⟨fun _ _ h => h,fun a xs q => by rw [upd_ne (fun z => by rw [z,h] at q; cases q)]; exact q,fun a o u q => by rw [upd_ne (fun z => by rw [z,h] at q; cases q)]; exact q⟩
 refine ⟨⟨e.pre,fun a o q n => by rw [upd_ne (ne q)]; exact e.fr a o q n,e.new,fun a xs q => by rw [upd_ne (ne q)]; exact e.tups a xs q,fun a o u q => by rw [upd_ne (ne q)]; exact e.frzs a o u q⟩,⟨r.len,r.nd,fun l a o e1 e2 => ?_⟩,eb⟩
 have k:upd H D (SetO P w D L') a = H a:=upd_ne fun z => nin (z ▸ List.mem_of_getElem? e1)
 have ho:=r.obj l a o e1 e2
 cases o with
 | lst xs => obtain ⟨vs,q,z⟩:=ho; exact ⟨vs,k.trans q,RpL.upW eb _ _ z⟩
 | dct xs => obtain ⟨vs,q,z⟩:=ho; exact ⟨vs,k.trans q,RpF.upW eb z⟩
 | ins C fs => obtain ⟨Ca,dx,vs,m,q,z⟩:=ho; exact ⟨Ca,dx,vs,m,k.trans q,RpF.upW eb z⟩
 | dtp xs => obtain ⟨vs,q,y,z⟩:=ho; exact ⟨vs,k.trans q,fun x hx => (y x hx).upW eb,RpF.upW eb z⟩
 | tab nm q => exact ⟨TabZ.to ho.1 k eb.frzs,ho.2⟩
 | exc C p => obtain ⟨oe,Ca,dd,x,q,m,c1,c2,c3,nd,hd,r⟩:=ho; exact ⟨oe,Ca,dd,x,k.trans q,m,c1,c2,c3,nd,(upd_ne fun z => by rw [z,h] at hd; cases hd).trans hd,Rp.upW eb _ _ r⟩
 | ndt xs => obtain ⟨vs,q,z,r⟩:=ho; exact ⟨vs,k.trans q,fun x hx => ⟨(z x hx).1,(z x hx).2.mono eb.frzs⟩,RpF.upW eb r⟩
section
variable {X:Cx} {W:WX}
structure Seen (X:Cx) (ι1:List Addr) (H1:Hp) (S:Sto) (D:Addr) (seen:List TK) (ι : List Addr) (H:Hp):Prop where
 ext:Ext ι1 H1 ι H
 rs:RSt X.prog X.w X.K X.mg ι H S
 nin:D ∉ ι
 at_:∃ L:List (Addr × TK),H D = some (SetO X.prog X.w D L)∧(∀ q ∈ L,FzT X.K H q.1 (q.2.map kV))∧(L.map (·.2)).Nodup∧(∀ k,k ∈ L.map (·.2)↔k ∈ seen)∧L.length ≤ seen.length
theorem Seen.up {ι1 ι ι':List Addr} {H1 H H':Hp} {S:Sto} {D:Addr} {seen:List TK} (s:Seen X ι1 H1 S D seen ι H) (e:Ext ι H ι' H') (r:RSt X.prog X.w X.K X.mg ι' H' S):Seen X ι1 H1 S D seen ι' H':=by
 obtain ⟨L,z1,z2,z3,z4,z5⟩:=s.at_
 refine ⟨s.ext.trans e,r,fun hm => ?_,L,e.fr D _ z1 s.nin,fun q hq => (z2 q hq).mono e,z3,z4,z5⟩
 rcases e.new D hm with z | z
 ·exact s.nin z
 ·rw [z1] at z; cases z
theorem Seen.put {ι1 ι : List Addr} {H1 H:Hp} {S:Sto} {D c:Addr} {seen:List TK} {k:TK} (s:Seen X ι1 H1 S D seen ι H) (hD:H1 D = none) (hk:FzT X.K H c (k.map kV)) {L L':List (Addr × TK)} (hL:H D = some (SetO X.prog X.w D L)) (its:∀ q ∈ L,FzT X.K H q.1 (q.2.map kV)) (nd:(L.map (·.2)).Nodup) (mem:∀ k,k ∈ L.map (·.2)↔k ∈ seen) (le:L.length ≤ seen.length)
  (c1:k ∈ L.map (·.2)→L' = L) (c2:k ∉ L.map (·.2)→L'.Perm ((c,k) :: L)):Seen X ι1 H1 S D (seen ++ [k]) ι (upd H D (SetO X.prog X.w D L'))∧ExtW ι H ι (upd H D (SetO X.prog X.w D L')):=by
 obtain ⟨E,r,eb⟩:=setO_stays (L':=L') hD s.ext s.rs s.nin hL
 refine ⟨⟨E,r,s.nin,L',upd_same,?_⟩,eb⟩
 by_cases hm:k ∈ L.map (·.2)
 ·have el:=c1 hm
  subst el
  refine ⟨fun q hq => (its q hq).upW eb,nd,fun x => ?_,by simp; omega⟩
  rw [mem x,List.mem_append,List.mem_singleton]
  exact ⟨.inl,fun z => z.elim id fun e => e ▸ (mem k).mp hm⟩
 ·have pm:=c2 hm
  refine ⟨fun q hq => ?_,(pm.map _).nodup_iff.mpr (by rw [List.map_cons]; exact List.nodup_cons.mpr ⟨hm,nd⟩),fun x => ?_,by have:=pm.length_eq; simp at this ⊢; omega⟩
  ·rcases List.mem_cons.mp (pm.mem_iff.mp hq) with z | z
   ·rw [z]; exact hk.upW eb
   ·exact (its q z).upW eb
  ·rw [(pm.map (·.2)).mem_iff,List.map_cons,List.mem_cons,mem x,List.mem_append,List.mem_singleton]
   exact ⟨fun z => z.elim .inr .inl,fun z => z.elim .inr .inl⟩
end
end PL
set_option maxHeartbeats 4000000
namespace PLz
open PySem PySem.Spec PyProof.Rows L2
theorem RawB.ob {k:Bool} {h:Heap} {a:Addr} {its:Array Value} (r:RawB k h a its):∃ o,h.get? a = some o:=by
 cases k <;> obtain ⟨o,ho,_⟩:=r <;> exact ⟨o,ho⟩
end PLz
namespace PL
open PySem PySem.Spec PyProof.Rows L2 PLz
section
variable {X:Cx} {W:WX} {a b:Expr} {ma mb:EM PV} {pos:Pos}
end
end PL
set_option maxHeartbeats 4000000
namespace PLz
open PySem PySem.Spec PyProof.Rows L2
section
variable {prog:Program} {w:World} {A:Around} {R:Result→Shared→Prop}
abbrev Parts:=List (Addr × List Value)
def PartsAt (h:Heap) (ps:Parts):Prop:=∀ p ∈ ps,∃ n,IsL h p.1 p.2.toArray n
theorem PartsAt.up {h h':Heap} {ps:Parts} (x:PartsAt h ps) (k:∀ p ∈ ps,∀ o,h.get? p.1 = some o→h'.get? p.1 = some o):PartsAt h' ps:=fun p hp => (x p hp).elim fun n e => ⟨n,k p hp _ e⟩
end
end PLz
namespace PL
open PySem PySem.Spec PyProof.Rows L2 PLz
section
variable {X:Cx} {W:WX}
end
end PL
namespace PL
open PySem PySem.Spec PyProof.Rows L2
section
variable {X:Cx} {W:WX} {e:Expr} {es:List Expr} {mas:EM (List PV)} {pos:Pos}
end
end PL
namespace PL
open PySem PySem.Spec PyProof.Rows L2
section
variable {X:Cx}
def neNilP:Op2:=fun p q S => match p,q with
 | .loc l,.loc k => (match S[l]?,S[k]? with | some (.lst xs),some (.lst []) => some (.bl (!xs.isEmpty),S) | _,_ => none)
 | _,_ => none
theorem og_neNil (hu:X.A.units + 64 < cLine):OpR X (compareOp .NotEq) (gOp X neNilP):=by
 intro pins s σ H x y v u Q I rx ry ⟨ι,S,p,q,z,S',rs,rp,rq,hf,k⟩
 unfold neNilP at hf
 split at hf
 case h_2 => cases hf
 split at hf
 case h_2 => cases hf
 rename_i xs e1 e2
 cases hf
 obtain ⟨a,rfl,h1⟩:=rp
 obtain ⟨b,rfl,h2⟩:=rq
 obtain ⟨vs,h3,h4⟩:=rs.obj _ a _ h1 e1
 obtain ⟨ws,h5,h6⟩:=rs.obj _ b _ h2 e2
 cases (show ws = [] from h6)
 cases rx
 cases ry
 obtain ⟨its,r1,t1,_⟩:=I.list (.of h3)
 obtain ⟨jts,r2,t2,_⟩:=I.list (.of h5)
 cases r2
 have fin:=k ι H (.bl (!xs.isEmpty)) .refl rs rfl
 have hlen:=h4.length
 have hl2:=r1.length
 cases xs with
 | nil =>
  have:its = []:=List.length_eq_zero_iff.mp (by simp at hlen; omega)
  subst this
  exact SeqAt.RcNeAt.lists (e:=fun _ => true) t1.isList t2.isList rfl (by omega) (fun j h => absurd h (by simp)) _ _ _ _ ⟨.bl false,H,I,rfl,fin⟩
 | cons x xs =>
  have:its.length ≠ 0:=by simp at hlen; omega
  exact SeqAt.RcNeAt.lists_lengths t1.isList t2.isList (by simpa using this) (by omega) _ _ _ _ ⟨.bl true,H,I,rfl,fin⟩
end
@[simp] theorem neNilP_ap (l k:Nat) (S:Sto):neNilP (.loc l) (.loc k) S = match S[l]?,S[k]? with | some (.lst xs),some (.lst []) => some (.bl (!xs.isEmpty),S) | _,_ => none:=rfl
end PL
namespace PL
open PySem PySem.Spec PyProof.Rows L2
section
variable {X:Cx} {W:WX} {a b:Expr} {ms:EM (List PV)} {pos:Pos}
end
end PL
set_option maxHeartbeats 4000000
namespace PLs
open PySem PySem.Spec PyProof.Rows L2
section
variable {P:Program} {w:World} {K:Type} [DecidableEq K] {S:SKind P w K} {A:Around} {E:Value→Shared→Prop} {s:Shared}
end
end PLs
namespace PLs
open PySem PySem.Spec PyProof.Rows L2
section
variable {X:Cx}
end
end PLs
namespace PL
open PySem PySem.Spec PyProof.Rows L2 PLs
section
variable {X:Cx} {W:WX} {a:Expr} {ma:EM PV} {p p2 q pos:Pos}
end
end PL
namespace PL
open PySem PySem.Spec PyProof.Rows L2
end PL
namespace PL
open PySem PySem.Spec PyProof.Rows L2
section
variable {X:Cx} {W:WX} {a:Expr} {ma:EM PV} {p q pos:Pos}
end
end PL
namespace PL
open PySem PySem.Spec PyProof.Rows L2
end PL
set_option maxHeartbeats 4000000
namespace PLs
open PySem PySem.Spec PyProof.Rows L2
def kO (v:Value):Key:=match v with
 | .int i _ => .inl i
 | .str x _ => .inr x
 | _ => .inl 0
def EntK (w:World) (e:Int × Value):Prop:=keyIs (kO e.2) e.2 = true∧e.1 = keyH w (kO e.2)
def SetV (w:World) (h:Heap) (a:Addr) (ks:List Key):Prop :=
 ∃ o es ep t,h.get? a = some o∧o.ExactSet∧o.data = .set es ep t∧(∀ e ∈ es.toList,EntK w e)∧(es.toList.map fun e => kO e.2).Perm ks∧ks.Nodup∧es.size < scanBound∧t.fits es.size = true∧Ris t.place.toList∧(w.params.followText "set-order" = true ∨ t.led = true)
theorem SetV.up {w:World} {h h':Heap} {a:Addr} {ks:List Key} (R:SetV w h a ks) (k:∀ o,h.get? a = some o→h'.get? a = some o):SetV w h' a ks:=by
 obtain ⟨o,es,ep,t,ho,r⟩:=R
 exact ⟨o,es,ep,t,k o ho,r⟩
section
variable {P:Program} {w:World} {A:Around} {E:Value→Shared→Prop} {s:Shared} {a:Addr} {ks:List Key}
theorem SetV.size {es:Array (Int × Value)} (pm:(es.toList.map fun e => kO e.2).Perm ks):es.size = ks.length:=by
 rw [← pm.length_eq,List.length_map,Array.length_toList]
end
end PLs
set_option maxHeartbeats 4000000
namespace PLs
open PySem PySem.Spec PyProof.Rows PySem.W L2
section
variable {P:Program} {w:World} {A:Around} {E:Value→Shared→Prop} {s:Shared}
structure HadV (vs:List Value) (i:Nat) (L:List Key):Prop where
 of:∀ k ∈ L,∃ v ∈ vs.take i,kO v = k
 to:∀ v ∈ vs.take i,kO v ∈ L
 le:L.length ≤ i
theorem HadV.none (vs:List Value):HadV vs 0 []:=⟨by simp,by simp,Nat.le_refl _⟩
open Classical in
theorem HadV.step {vs:List Value} {L:List Key} {i:Nat} {v:Value} (g:HadV vs i L) (e:vs[i]? = some v):HadV vs (i + 1) (if kO v ∈ L then L else kO v :: L):=by
 have tk:vs.take (i + 1) = vs.take i ++ [v]:=by rw [List.take_succ,e]; rfl
 refine ⟨fun k hk => ?_,fun u hu => ?_,?_⟩
 ·rw [tk]
  have up:∀ k ∈ L,∃ u ∈ vs.take i ++ [v],kO u = k:=fun k hk => by
   obtain ⟨u,hu,q⟩:=g.of k hk
   exact ⟨u,by simp [hu],q⟩
  split at hk
  ·exact up k hk
  ·rcases List.mem_cons.mp hk with z | z
   ·exact ⟨v,by simp,z.symm⟩
   ·exact up k z
 ·rw [tk] at hu
  rcases List.mem_append.mp hu with z | z
  ·have:=g.to u z
   split
   ·exact this
   ·exact List.mem_cons_of_mem _ this
  ·rw [List.mem_singleton.mp z]
   split
   ·assumption
   ·simp
 ·have:=g.le
  split
  ·omega
  ·simp; omega
theorem SetV.new {h:Heap} {a:Addr} (e:h.get? a = some (freshObj w)):SetV w h a [] :=
 ⟨_,#[],0,_,e,⟨rfl,rfl,rfl⟩,rfl,by simp,by simp,List.nodup_nil,by decide,by rfl,List.Pairwise.nil,by
  show _ ∨ (!w.params.followText "set-order") = true
  cases w.params.followText "set-order"
  ·exact .inr rfl
  ·exact .inl rfl⟩
end
section
variable {X:Cx}
end
end PLs
namespace PL
open PySem PySem.Spec PyProof.Rows L2 PLs
section
variable {X:Cx} {W:WX} {a:Expr} {ma:EM PV} {p p2 q pos:Pos}
end
section
variable {P:PV→Sto→Prop} {R:Str→PV→Sto→Prop} {S:Sto} {l:Nat} {ks:List Key}
end
end PL
set_option maxHeartbeats 4000000
namespace PLs
open PySem PySem.Spec PyProof.Rows PySem.W L2
section
variable {P:Program} {w:World} {A:Around} {E:Value→Shared→Prop} {s:Shared}
end
section
variable {X:Cx}
end
end PLs
namespace PL
open PySem PySem.Spec PyProof.Rows L2 PLs
section
variable {X:Cx} {W:WX} {a:Expr} {ma:EM PV} {p p2 q pos:Pos}
end
section
variable {P:PV→Sto→Prop} {R:Str→PV→Sto→Prop} {S:Sto} {ks:List Key}
end
end PL
set_option maxHeartbeats 4000000
namespace PL
open PySem PySem.Spec PyProof.Rows L2
section
variable {X:Cx}
end
end PL
namespace PL
open PySem PySem.Spec PyProof.Rows L2
section
variable {X:Cx} {W:WX} {a:Expr} {ma:EM PV} {p q r pos:Pos}
end
end PL
namespace PL
open PySem PySem.Spec PyProof.Rows L2
section
variable {X:Cx} {W:WX}
end
end PL
set_option maxHeartbeats 4000000
namespace PL
open PySem PySem.Spec PyProof.Rows L2
section
variable {X:Cx} {W:WX} {e:Expr} {me:EM PV} {p3 p4 pos:Pos} {j2:Nat}
end
end PL
namespace PLa
open PySem PySem.Spec PyProof.Rows
section
variable {P:Program} {w:World} {κ : Type} [DecidableEq κ] {knd:HeapKind P w κ} {A:Around} {E:Value→Shared→Prop} {s:Shared} {d a:Addr} {k : κ} {v:Value} {xs:List (κ × Addr × Value)}
structure AgeAt (knd:HeapKind P w κ) (h:Heap) (d:Addr) (xs:List (κ × Addr × Value)):Prop where
 ob:∃ o es,h.get? d = some o∧o.ExactDict∧o.data = .dict es xs.length∧es.toList = xs.map (entryOfKey knd)
 ks:∀ x ∈ xs,knd.is h x.1 x.2.1
 nd:(xs.map (·.1)).Nodup
theorem AgeAt.dict {h:Heap} (g:AgeAt knd h d xs):h.DictOfH knd d xs:=by
 obtain ⟨o,es,h1,h2,h3,h4⟩:=g.ob
 exact ⟨o,es,_,h1,h2,h3,h4,g.ks,g.nd⟩
theorem storedH_ks {h h':Heap} (hk:∀ x ∈ xs,knd.is h x.1 x.2.1) (ha:knd.is h k a) (kp:∀ {y b},knd.is h y b→knd.is h' y b):∀ x ∈ storedH xs k a v,knd.is h' x.1 x.2.1:=by
 intro x hx
 rcases mem_storedH hx with ⟨y,hy,e1,e2⟩ | ⟨e1,e2⟩
 ·rw [e1,e2]; exact kp (hk y hy)
 ·rw [e1,e2]; exact kp ha
theorem AgeAt.new {h:Heap} (g:AgeAt knd h d xs) (ha:knd.is h k a) (hn:atKey xs k = none):AgeAt knd (h.update d (Obj.mapDictKeys fun es => es.push ⟨knd.hash k,.ref a,v⟩)) d (storedH xs k a v):=by
 obtain ⟨o,es,h1,h2,h3,h4⟩:=g.ob
 refine ⟨⟨_,es.push ⟨knd.hash k,.ref a,v⟩,Heap.get?_update_self _ h1 (Obj.isFreed_of_dict (Obj.data_mapDictKeys h3 _)),h2.mapDictKeys _,?_,?_⟩,storedH_ks g.ks ha fun q => knd.keeps q h1 h3 (Heap.SameBut.update ..),?_⟩
 ·rw [storedH_new hn,List.length_append]
  exact Obj.data_mapDictKeys h3 _
 ·rw [storedH_new hn,Array.toList_push,h4,List.map_append]; rfl
 ·rw [storedH_new hn,List.map_append,List.map_cons,List.map_nil]
  refine List.nodup_append.mpr ⟨g.nd,by simp,fun x hx y hy => ?_⟩
  have e:y = k:=by simpa using hy
  subst e
  intro e
  subst e
  obtain ⟨z,z1,z2⟩:=List.mem_map.mp hx
  have q:=List.find?_eq_none.mp (Option.map_eq_none_iff.mp hn) z z1
  simp [z2] at q
theorem AgeAt.old {h:Heap} {j:Nat} {p:Addr × Value} (g:AgeAt knd h d xs) (ha:knd.is h k a) (hj:xs[j]? = some (k,p)):AgeAt knd (h.update d (Obj.mapDict fun es => es.modify j fun e => { e with val:=v })) d (storedH xs k a v):=by
 obtain ⟨o,es,h1,h2,h3,h4⟩:=g.ob
 have hs:storedH xs k a v = xs.map (putAt k v):=storedH_old (atKey_of_get g.nd hj) a v
 refine ⟨⟨_,es.modify j fun e => { e with val:=v },Heap.get?_update_self _ h1 (Obj.isFreed_of_dict (Obj.data_mapDict h3 _)),h2.mapDict _,?_,?_⟩,storedH_ks g.ks ha fun q => knd.keeps q h1 h3 (Heap.SameBut.update ..),?_⟩
 ·rw [hs,List.length_map]
  exact Obj.data_mapDict h3 _
 ·have q:=modify_map_putAt (entryOfKey knd) (fun e:DictEntry => { e with val:=v }) k v (fun _ _ => rfl) g.nd hj
  rw [hs,← q,← h4,Array.toList_modify]
 ·rw [hs,keys_map_putAt]; exact g.nd
theorem AgeAt.empty (h:Heap):AgeAt knd (h.push { cls:=.type "dict",data:=.dict #[] }) h.objs.size [] :=
 ⟨⟨_,#[],Heap.get?_push_size _ rfl,⟨rfl,rfl,rfl⟩,rfl,rfl⟩,(fun x hx => nomatch hx),List.nodup_nil⟩
end
end PLa
namespace PL
open PySem PySem.Spec PyProof.Rows L2 PLa
abbrev LK:=List Leaf
section
variable {K:PySem.W.Frag} {ι : List Addr} {H:Hp}
end
section
variable {P:Program} {w:World}
end
abbrev EKr:List (LK × Addr × V)→List (LK × Addr × Value)→Prop:=Paired fun p q => p.1 = q.1∧p.2.1 = q.2.1∧RelV p.2.2 q.2.2
def stripX (xs:List (LK × Addr × V)):List (LK × V):=xs.map fun x => (x.1,x.2.2)
def putX (xs:List (LK × Addr × V)) (k:LK) (b:Addr) (v:V):List (LK × Addr × V) :=
 if ((stripX xs).any fun x => decide (x.1 = k)) = true then xs.map (fun x => if x.1 = k then (x.1,x.2.1,v) else x) else xs ++ [(k,b,v)]
theorem EKr.val {xs:List (LK × Addr × V)} {vs:List (LK × Addr × Value)} (r:EKr xs vs) (k:LK):RelO (valV (stripX xs) k) ((atKey vs k).map (·.2)):=by
 unfold EKr at r
 induction r with
 | nil => exact True.intro
 | @cons p q ps qs h t ih =>
  obtain ⟨h1,_,h2⟩:=h
  by_cases e:p.1 = k
  ·have e':q.1 = k:=h1.symm.trans e
   have b:atKey (q :: qs) k = some q.2:=by simp [atKey,List.find?_cons,e']
   rw [show stripX (p :: ps) = (p.1,p.2.2) :: stripX ps from rfl,valV_pos (p:=(p.1,p.2.2)) e,b]; exact h2
  ·have e':¬ q.1 = k:=fun z => e (h1.trans z)
   have b:atKey (q :: qs) k = atKey qs k:=by simp [atKey,List.find?_cons,e']
   rw [show stripX (p :: ps) = (p.1,p.2.2) :: stripX ps from rfl,valV_neg (p:=(p.1,p.2.2)) e,b]; exact ih
theorem EKr.repl {xs:List (LK × Addr × V)} {vs:List (LK × Addr × Value)} (r:EKr xs vs) (k:LK) {y:V} {u:Value} (ry:RelV y u) :
  EKr (xs.map (fun x => if x.1 = k then (x.1,x.2.1,y) else x)) (vs.map (putAt k u)):=by
 unfold EKr at r ⊢
 induction r with
 | nil => exact .nil
 | @cons p q ps qs h t ih =>
  rw [List.map_cons,List.map_cons]
  refine .cons ?_ ih
  obtain ⟨h1,h2,h3⟩:=h
  unfold putAt
  by_cases e:p.1 = k
  ·rw [if_pos e,if_pos (h1.symm.trans e)]; exact ⟨h1,h2,ry⟩
  ·rw [if_neg e,if_neg (fun z => e (h1.trans z))]; exact ⟨h1,h2,h3⟩
theorem EKr.put {xs:List (LK × Addr × V)} {vs:List (LK × Addr × Value)} (r:EKr xs vs) (k:LK) (b:Addr) {y:V} {u:Value} (ry:RelV y u):EKr (putX xs k b y) (storedH vs k b u):=by
 have e:((stripX xs).any fun kv => decide (kv.1 = k)) = (atKey vs k).isSome:=by
  rw [valV_any,(r.val k).isSome_eq,Option.isSome_map]
 unfold putX storedH
 rw [e]
 by_cases q:(atKey vs k).isSome = true
 ·rw [if_pos q,if_pos q]; exact r.repl k ry
 ·rw [if_neg q,if_neg q]; exact Paired.snoc r ⟨rfl,rfl,ry⟩
section
variable {X:Cx} {pins:List (Addr × Obj)} {σ : L2.St} {H H':Hp} {s:Shared} {a b:Addr} {y v d:V} {k:LK} {u r:Value} {o:Option V} {A:Around} {E:Value→Shared→Prop} {xs:List (LK × Addr × V)}
end
section
variable {X:Cx} {pins:List (Addr × Obj)} {σ : L2.St} {H:Hp} {s:Shared} {a:Addr}
end
section
variable {X:Cx} {o i e f:Expr} {pos apos cpos:Pos} {td ty tx:TE}
theorem EKr.all:∀ {xs:List (LK × Addr × V)} {vs:List (LK × Addr × Value)} {ys:List (LK × Addr × V)} {us:List (LK × Addr × Value)},EKr xs vs→EKr ys us→EKr (xs.foldl (fun acc x => putX acc x.1 x.2.1 x.2.2) ys) (storedAllH us vs):=by
 intro xs vs ys us r
 unfold EKr at r
 induction r generalizing ys us with
 | nil => intro q; exact q
 | @cons p q ps qs h t ih =>
  intro r0
  have e:=r0.put p.1 p.2.1 h.2.2
  rw [List.foldl_cons]
  show EKr _ (storedAllH (storedH us q.1 q.2.1 q.2.2) qs)
  rw [← h.1,← h.2.1]
  exact ih e
end
end PL
namespace PL
open PySem PySem.Spec PyProof.Rows L2
section
variable {K:PySem.W.Frag} {ι : List Addr} {H:Hp} {k:LK}
end
section
variable {K:PySem.W.Frag} {mg:Str→Option Value} {ι : List Addr} {H:Hp} {S:Sto} {a:Addr} {l:Nat}
end
section
variable {X:Cx} {W:WX} {a b c e o f:Expr} {ma mb mo mf:EM PV} {pos apos cpos:Pos}
end
end PL
namespace PL
open PySem PySem.Spec PyProof.Rows L2 PLa
theorem EKr.get:∀ {xs:List (LK × Addr × V)} {vs:List (LK × Addr × Value)} {i:Nat} {x:LK × Addr × V},EKr xs vs→xs[i]? = some x→∃ y,vs[i]? = some y∧x.1 = y.1∧x.2.1 = y.2.1∧RelV x.2.2 y.2.2
 | _,_,i,x,.nil,e => by simp at e
 | _,_,0,x,.cons h t,e => by
  simp at e; subst e
  exact ⟨_,rfl,h⟩
 | _,_,i + 1,x,.cons h t,e => by
  obtain ⟨y,e1,e2⟩:=EKr.get (i:=i) t (by simpa using e)
  exact ⟨y,by simpa using e1,e2⟩
section
variable {K:PySem.W.Frag} {ι : List Addr} {H:Hp}
end
section
variable {X:Cx} {W:WX} {e:Expr} {ma:EM PV} {apos cpos:Pos}
end
end PL
set_option maxHeartbeats 4000000
namespace PLs
open PySem PySem.Spec PyProof.Rows PySem.W L2 PLa
section
variable {P:Program} {w:World} {A:Around} {E:Value→Shared→Prop} {s:Shared}
end
end PLs
namespace PL
open PySem PySem.Spec PyProof.Rows L2 PLs PLa
def kL:Key→Leaf
 | .inl i => .num i
 | .inr x => .text x
section
variable {X:Cx} {W:WX} {a:Expr} {ma:EM PV} {p pos:Pos}
end
section
variable {P:PV→Sto→Prop} {R:Str→PV→Sto→Prop} {S:Sto} {l:Nat} {ks:List TK} {kvs:List (LK × PV)}
end
end PL
namespace PL
open PySem PySem.Spec PyProof.Rows L2
section
variable {X:Cx} {W:WX} {o e:Expr} {es:List Expr} {f:Str} {mo ma:EM PV} {pos:Pos} {to:TE}
end
section
variable {P:PV→Sto→Prop} {R:Str→PV→Sto→Prop} {τ : En} {S:Sto}
end
end PL
namespace PL
open PySem PySem.Spec PyProof.Rows L2
section
variable {X:Cx} {W:WX} {e o i:Expr} {ma mo mi:EM PV} {pos:Pos}
end
section
variable {τ : En} {S:Sto}
end
end PL
namespace PL
open PySem PySem.Spec PyProof.Rows L2
section
variable {X:Cx}
end
end PL
namespace PL
open PySem PySem.Spec PyProof.Rows L2
def lindexP:OpM:=fun p ps S => match p,ps with
 | .loc l,[.str x] => (match S[l]? with
  | some (.lst xs) => (strsP xs).bind fun ys => (ys.findIdx? fun y => decide (y = x)).map fun j => (.int ((j:Nat):Int),S)
  | _ => none)
 | _,_ => none
theorem om_lindex {X:Cx}:MtR X "list.index" (gMt X lindexP):=by
 intro pins s σ H x xs v us Q I rx rxs ⟨ι,S,p,ps,w,S',rs,rp,rps,hf,k⟩
 unfold lindexP at hf
 split at hf
 ·rename_i l y
  split at hf
  ·rename_i zs hS
   cases hq:strsP zs with
   | none => rw [hq] at hf; cases hf
   | some ys =>
    rw [hq] at hf
    cases hj:ys.findIdx? fun z => decide (z = y) with
    | none => simp [hj] at hf
    | some j =>
     simp only [Option.bind_some,hj,Option.map_some,Option.some.injEq,Prod.mk.injEq] at hf
     obtain ⟨rfl,rfl⟩:=hf
     obtain ⟨a,rfl,h1⟩:=rp
     obtain ⟨vs,h2,h3⟩:=rs.obj _ a _ h1 hS
     obtain ⟨u,rfl,hu⟩:=rpl1 rps
     cases (show u = _ from hu)
     have hvs:=strs_rp h3 hq
     subst hvs
     obtain ⟨hjl,hje,hjn⟩:=List.findIdx?_eq_some_iff_getElem.mp hj
     refine mt_index pins s σ H _ _ v us Q I rx rxs ⟨a,ys.map V.str,.str y,j,.str y,rfl,rfl,SqL.of h2,rfl,?_,?_,?_,?_,k _ _ _ .refl rs rfl⟩
     ·rw [List.all_map]; exact List.all_eq_true.mpr fun _ _ => rfl
     ·rw [List.getElem?_map,List.getElem?_eq_getElem hjl]
      simp only [Option.map_some]
      rw [of_decide_eq_true hje]
     ·simp [eqV]
     ·intro m z' hm hz'
      rw [List.getElem?_map,List.getElem?_eq_getElem (by omega)] at hz'
      simp only [Option.map_some,Option.some.injEq] at hz'
      subst hz'
      have:=hjn m hm
      simpa [eqV] using this
  ·cases hf
 ·cases hf
@[simp] theorem lindexP_loc (l:Nat) (x:Str) (S:Sto):lindexP (.loc l) [.str x] S = match S[l]? with
  | some (.lst xs) => (strsP xs).bind fun ys => (ys.findIdx? fun y => decide (y = x)).map fun j => (.int ((j:Nat):Int),S)
  | _ => none:=rfl
end PL
namespace PL
open PySem PySem.Spec PyProof.Rows L2
end PL
set_option maxHeartbeats 4000000
namespace PLs
open PySem PySem.Spec PyProof.Rows PySem.W L2 PLa PySem.SeqAt
section
variable {P:Program} {w:World} {A:Around} {E:Value→Shared→Prop} {s:Shared}
def VP (P:Program) (w:World) (h:Heap) (k:List Key) (x:Value) (v:Value):Prop:=∃ (t:Addr) (o:Obj) (n:Nat) (a:Addr),v = .ref t∧h.get? t = some o∧o.cls = .type "tuple"∧o.data = .seq #[.ref a,x] n∧IsT2 P w h k a
theorem VP.keeps {h h':Heap} {k:List Key} {x v:Value} (p:VP P w h k x v) (e:∀ b o,h.get? b = some o→o.cls = .type "tuple"→h'.get? b = some o):VP P w h' k x v:=by
 obtain ⟨t,o,n,a,rfl,ho,hc,hd,o',its,m,ho',hc',r⟩:=p
 exact ⟨t,o,n,a,rfl,e t o ho hc,hc,hd,o',its,m,e a o' ho' hc',hc',r⟩
end
end PLs
namespace PL
open PySem PySem.Spec PyProof.Rows L2 PLs PLa
abbrev pairO (a:Addr) (u:Value):Obj:={ cls:=.type "tuple",data:=.seq #[.ref a,u] }
inductive GrowP:Hp→List (Addr × Addr × V × Value)→Hp→Prop
 | nil {H:Hp}:GrowP H [] H
 | cons {H H':Hp} {z:Addr × Addr × V × Value} {r:List (Addr × Addr × V × Value)}:H z.1 = none→GrowP (upd H z.1 (.frz (pairO z.2.1 z.2.2.2) (.tup [.ref z.2.1,z.2.2.1]))) r H'→GrowP H (z :: r) H'
theorem GrowP.old {H H':Hp} {zs:List (Addr × Addr × V × Value)} (g:GrowP H zs H') {p:Addr} (hz:∀ z ∈ zs,z.1 ≠ p):H' p = H p:=by
 induction g with
 | nil => rfl
 | @cons H H' z r h1 h3 ih => rw [ih fun y h => hz y (by simp [h]),upd_ne (Ne.symm (hz z (by simp)))]
theorem GrowP.new {H H':Hp} {zs:List (Addr × Addr × V × Value)} (g:GrowP H zs H') (nd:(zs.map (·.1)).Nodup):∀ z ∈ zs,H' z.1 = some (.frz (pairO z.2.1 z.2.2.2) (.tup [.ref z.2.1,z.2.2.1])):=by
 induction g with
 | nil => exact fun z h => nomatch h
 | @cons H H' z r h1 h3 ih =>
  rw [List.map_cons,List.nodup_cons] at nd
  intro y hy
  rcases List.mem_cons.mp hy with e | e
  ·subst e
   rw [h3.old fun x hx e => nd.1 (List.mem_map.mpr ⟨x,hx,e⟩),upd_same]
  ·exact ih nd.2 y e
abbrev Zp:=Addr × Addr × V × Value
theorem GrowP.ext {Ωw:World} {ΩP:Program} {K:PySem.W.Frag} {mg:Str→Option Value} {ι : List Addr} {H H':Hp} {S:Sto} {zs:List Zp} (g:GrowP H zs H') (r:RSt ΩP Ωw K mg ι H S):Ext ι H ι H'∧RSt ΩP Ωw K mg ι H' S:=by
 induction g with
 | nil => exact ⟨.refl,r⟩
 | @cons H H' z zs h1 h3 ih =>
  obtain ⟨E,r1⟩:=r.tup (ho:=.frz (pairO z.2.1 z.2.2.2) (.tup [.ref z.2.1,z.2.2.1])) h1
  obtain ⟨E2,r2⟩:=ih r1
  exact ⟨E.trans E2,r2⟩
section
variable {X:Cx} {W:WX} {e:Expr} {ma:EM PV} {p pos apos cpos:Pos}
end
section
variable {P:PV→Sto→Prop} {R:Str→PV→Sto→Prop} {S:Sto} {l:Nat} {ks:List TK} {kvs:List (LK × PV)}
end
end PL
set_option maxHeartbeats 4000000
namespace PLs
open PySem PySem.Spec PyProof.Rows L2
section
variable {B:Cx} {elt:Expr} {gens:List Comprehension} {bsc:Scope} {epos:Pos} {d:Nat} {it:Addr} {acc:Value} {tg:Expr} {body:Sem Unit} {p:Pos} {R:Result→Shared→Prop}
end
section
variable {B:Cx} {el:Expr} {te:TE} {D:Addr}
end
section
variable {X:Cx} {el t0 i0 t1 i1 t2 i2:Expr} {bs:Scope} {p pos:Pos} {wi wi1 wi2:TI} {g g1 g2:TG} {te:TE} {own:List (Str × Nat)} {vs1 vs2:List Nat}
end
end PLs
namespace PL
open PySem PySem.Spec PyProof.Rows L2 PLs
section
variable {X:Cx} {W:WX} {σ0:L2.St} {Q:VK} {ι0:List Addr} {H0:Hp} {D:Addr}
end
end PL
namespace PL
open PySem PySem.Spec PyProof.Rows L2
end PL
namespace PL
open PySem PySem.Spec PyProof.Rows L2
section
variable {X:Cx} {W:WX} {e:Expr} {es:List Expr} {mas:EM (List PV)} {pos:Pos}
end
end PL
namespace PL
open PySem PySem.Spec PyProof.Rows L2
end PL
namespace PL
open PySem PySem.Spec PyProof.Rows L2 PLa
section
variable {X:Cx} {W:WX} {e tg:Expr} {ma:EM PV}
end
end PL
namespace PL
open PySem PySem.Spec PyProof.Rows L2 PLa
section
variable {X:Cx} {W:WX} {mas:EM (List PV)} {pos:Pos} {kws:List Keyword}
end
section
variable {τ : En} {S:Sto}
end
end PL
namespace PL
open PySem PySem.Spec PyProof.Rows L2
abbrev Kn (H:Hp) (a:Addr) (o:Obj):Prop:=H a = some (.frz o (.ext fun _ => True))
theorem kn_ok {P:Program} {w:World} {H:Hp} {h:Heap} {a:Addr} {o:Obj} (e:h.get? a = some o):ObjOk P w H h a (.frz o (.ext fun _ => True)) :=
 And.intro e (And.intro trivial (And.intro (Exists.intro o e) fun _ _ _ _ => trivial))
theorem kn_get {P:Program} {w:World} {H:Hp} {h:Heap} {a:Addr} {o:Obj} (x:HOk P w H h) (e:Kn H a o):h.get? a = some o:=(x a _ e).1
section
variable {X:Cx} {pins:List (Addr × Obj)} {σ : L2.St} {H:Hp} {s:Shared}
theorem known_of {c:Addr} {o:Obj} {φ : Heap→Prop} (I:Inv X pins σ H s) (hx:H c = some (.ext φ)) (e:s.heap.get? c = some o):Inv X pins σ (upd H c (.frz o (.ext fun _ => True))) s:=by
 have mu:Mut (H c):=by rw [hx]; trivial
 have U:Un X.fs [] H (upd H c (.frz o (.ext fun _ => True))) s.heap s.heap:=Un.write mu (.inl rfl) (fun _ _ _ q => q) (Exists.intro o e)
 exact I.un (t':=s.toks) U (I.hok.write mu (.inl rfl) (fun _ _ _ q => q) (Exists.intro o e) (kn_ok e))
structure Made (H H1:Hp) (P f c':Addr) (q:Str) (fo co:Obj):Prop where
 keep:∀ b o,b ≠ P→H b = some o→H1 b = some o
 tab:TabZ H1 P q
 fn:Kn H1 f fo
 cod:Kn H1 c' co
 codq:CodeZ co q
theorem lam_mk {c P:Addr} {params:Arguments} {body:Expr} {scope:Scope} {pos:Pos} {E:Value→Shared→Prop} {Q:Value→Shared→Prop} (I:Inv X pins σ H s) (TB:LamX.TabB X.base X.mg c P) (hcode:X.env.code = .ref c)
  (hT:TabZ H P (X.env.qual ++ "<lambda>")) (hdef:defaultsOf params X.env = ([],[])) (hfree:∀ y ∈ scope.names,y.2 = .free→∃ c,X.env.cells.lookup y.1 = some c)
  (h:∀ (f c':Addr) (pm ctv:Value) (co:Obj) (H1:Hp) (s':Shared),Inv X pins σ H1 s' →
   Made H H1 P f c' (X.env.qual ++ "<lambda>") (PySem.W.kla_obj "<lambda>" (X.env.qual ++ "<lambda>") params body scope (cloFrom X.env.cells scope.names []) pm c' ctv) co→Q (.ref f) s') :
  wpAny (model X.prog X.w) X.A (eval (.Lambda params body scope pos) X.env) Q E s:=by
 have hT':=hT
 obtain ⟨ps,hP,ht,ha⟩:=hT
 refine PySem.W.kla_eval hdef ?_
 have bP:=TB.bm.keeps I.bk
 have gP:s.heap.get? P = some { cls:=.none,data:=.fields ps }:=I.hok P _ hP
 have CH:=TB.code.keeps I.bk
 have hcl:=closure_ok hfree
 have mG:=I.mod.glob.keeps I.bk
 cases hc:codeAmong pos ps.toList with
 | some cv =>
  obtain ⟨c',co,e,hk,hq⟩:=ha pos cv hc
  subst e
  refine PySem.W.kla_makeFunctionHit (mg:=X.mg) (c:=c) (P:=P) (ps:=ps) hcl I.ok.glob mG hcode CH gP ht hc bP fun ctv h' tk kp hsz => ?_
  have I0:Inv X pins σ H { s with heap:=h' }:=I.kept (t':=s.toks) kp
  have fr:H h'.objs.size = none:=I.hok.fresh hsz
  have I1:=I0.laid (t':=tk) (o:=.frz (PySem.W.kla_obj "<lambda>" (X.env.qual ++ "<lambda>") params body scope (cloFrom X.env.cells scope.names []) ((X.mg "__name__").getD .none) c' ctv) (.ext fun _ => True)) (fun b o q => Heap.get?_push_of_some _ q) (Nat.le_refl _) (kn_ok (Heap.get?_push_size _ rfl))
  have st:∀ b o,H b = some o→upd H h'.objs.size (.frz (PySem.W.kla_obj "<lambda>" (X.env.qual ++ "<lambda>") params body scope (cloFrom X.env.cells scope.names []) ((X.mg "__name__").getD .none) c' ctv) (.ext fun _ => True)) b = some o:=fun b o q => by rw [upd_ne (ne_of_none q fr)]; exact q
  exact h h'.objs.size c' _ ctv co _ _ I1 ⟨fun b o _ q => st b o q,hT'.to ((st _ _ hP).trans hP.symm) fun b o u q => st b _ q,upd_same,st _ _ hk,hq⟩
 | none =>
  refine PySem.W.kla_makeFunction (mg:=X.mg) (c:=c) (P:=P) (ps:=ps) hcl I.ok.glob mG hcode CH gP ht hc TB.gP bP fun c' ctv h' tk hx hge hlt hrec htb => ?_
  obtain ⟨c2,oc,vs,t,e2,hoc,hd,hv⟩:=hrec
  cases e2
  have hsz:s.heap.objs.size ≤ h'.objs.size:=Nat.le_trans hge (Nat.le_of_lt hlt)
  have nC:H c' = none:=I.hok.fresh hge
  have I1:=LamX.inv_table (t':=s.toks) (more:=#[rawInt pos.line,rawInt pos.col,.ref c']) (h':=h') (q:=X.env.qual ++ "<lambda>") I hP (fun b o hb e => hx b o hb e) htb hge ⟨oc,vs,t,hoc,hd,hv⟩
  have I2:=known_of (o:=oc) I1 upd_same hoc
  have eL:(ps ++ #[rawInt pos.line,rawInt pos.col,.ref c']).toList = ps.toList ++ [rawInt pos.line,rawInt pos.col,.ref c']:=by simp
  have nPc:P ≠ c':=ne_of_none hP nC
  have k2:∀ b o,b ≠ P→H b = some o→upd (upd (upd H P (.tbl (ps ++ #[rawInt pos.line,rawInt pos.col,.ref c']))) c' (LamX.CodeO c' (X.env.qual ++ "<lambda>"))) c' (.frz oc (.ext fun _ => True)) b = some o:=fun b o hb e => by
   rw [upd_ne (ne_of_none e nC),upd_ne (ne_of_none e nC),upd_ne hb]; exact e
  have tP:upd (upd (upd H P (.tbl (ps ++ #[rawInt pos.line,rawInt pos.col,.ref c']))) c' (LamX.CodeO c' (X.env.qual ++ "<lambda>"))) c' (.frz oc (.ext fun _ => True)) P = some (.tbl (ps ++ #[rawInt pos.line,rawInt pos.col,.ref c'])):=by
   rw [upd_ne nPc,upd_ne nPc,upd_same]
  have cK:Kn (upd (upd (upd H P (.tbl (ps ++ #[rawInt pos.line,rawInt pos.col,.ref c']))) c' (LamX.CodeO c' (X.env.qual ++ "<lambda>"))) c' (.frz oc (.ext fun _ => True))) c' oc:=upd_same
  generalize upd (upd (upd H P (.tbl (ps ++ #[rawInt pos.line,rawInt pos.col,.ref c']))) c' (LamX.CodeO c' (X.env.qual ++ "<lambda>"))) c' (.frz oc (.ext fun _ => True)) = H2 at I2 k2 tP cK
  have tZ:TabZ H2 P (X.env.qual ++ "<lambda>"):=by
   refine ⟨_,tP,by rw [eL]; exact TriplesOk_snoc _ _ _ _ ht,fun p' cv hcv => ?_⟩
   rw [eL] at hcv
   rcases LamX.among_app _ ht hcv with z | z
   ·obtain ⟨c0,o0,e1,e3,e4⟩:=ha p' cv z
    refine ⟨c0,o0,e1,k2 _ _ (fun y => ?_) e3,e4⟩
    rw [y,hP] at e3; cases e3
   ·exact ⟨c',oc,z,cK,vs,t,hd,hv⟩
  have fr:H2 h'.objs.size = none:=I2.hok.fresh (Nat.le_refl _)
  have I3:=I2.laid (t':=tk) (o:=.frz (PySem.W.kla_obj "<lambda>" (X.env.qual ++ "<lambda>") params body scope (cloFrom X.env.cells scope.names []) ((X.mg "__name__").getD .none) c' ctv) (.ext fun _ => True)) (fun b o q => Heap.get?_push_of_some _ q) (Nat.le_refl _) (kn_ok (Heap.get?_push_size _ rfl))
  have st:∀ b o,H2 b = some o→upd H2 h'.objs.size (.frz (PySem.W.kla_obj "<lambda>" (X.env.qual ++ "<lambda>") params body scope (cloFrom X.env.cells scope.names []) ((X.mg "__name__").getD .none) c' ctv) (.ext fun _ => True)) b = some o:=fun b o q => by rw [upd_ne (ne_of_none q fr)]; exact q
  exact h h'.objs.size c' _ ctv oc _ _ I3 ⟨fun b o hb q => st b o (k2 b o hb q),tZ.to ((st _ _ tP).trans tP.symm) fun b o u q => st b _ q,upd_same,st _ _ cK,vs,t,hd,hv⟩
end
end PL
namespace PL
open PySem PySem.Spec PyProof.Rows L2
structure LamP (p m:Str) (scope:Scope):Prop where
 kind:scope.kind = .function
 co:scope.isCoroutine = false
 gen:scope.isGenerator = false
 cell:∀ y ∈ scope.names,y.2 ≠ .cell
 par:scope.names.lookup p = some .local
 cap:scope.names.lookup m ≠ some .local
def lamPB (p m:Str) (scope:Scope):Bool :=
 decide (scope.kind = .function) && (!scope.isCoroutine && (!scope.isGenerator && (scope.names.all (fun y => !decide (y.2 = .cell)) && (decide (scope.names.lookup p = some .local) && !decide (scope.names.lookup m = some .local)))))
theorem lamP_by {p m:Str} {scope:Scope} (h:lamPB p m scope = true):LamP p m scope:=by
 unfold lamPB at h
 simp only [Bool.and_eq_true,Bool.not_eq_true',decide_eq_true_eq,decide_eq_false_iff_not,List.all_eq_true] at h
 exact { kind:=h.1,co:=h.2.1,gen:=h.2.2.1,cell:=fun y hy => h.2.2.2.1 y hy,par:=h.2.2.2.2.1,cap:=h.2.2.2.2.2 }
structure Cap (clo:List (Str × Addr)) (scope:Scope) (m:Str) (um:Value) (H:Hp) (h:Heap):Prop where
 inj:∀ x y c,clo.lookup x = some c→clo.lookup y = some c→x = y
 has:∀ y,scope.names.lookup y = some .free→∃ c,clo.lookup y = some c
 cel:∀ y c,clo.lookup y = some c→(∃ v,h.IsCell c v)∧H c = none
 cap:∀ c,clo.lookup m = some c→h.IsCell c (some um)
theorem cell_un {fs:List Addr} {H H':Hp} {h h':Heap} {c:Addr} {v:Option Value} (U:Un fs [] H H' h h') (n:H c = none) (x:h.IsCell c v):h'.IsCell c v:=by
 obtain ⟨o,e,d⟩:=x
 obtain ⟨sl,e'⟩:=U.any e n (by simp)
 exact Exists.intro _ (And.intro e' d)
theorem Cap.un {clo:List (Str × Addr)} {scope:Scope} {m:Str} {um:Value} {fs:List Addr} {H H':Hp} {h h':Heap} (C:Cap clo scope m um H h) (U:Un fs [] H H' h h'):Cap clo scope m um H' h' where
 inj:=C.inj
 has:=C.has
 cel:=fun y c e => by
  obtain ⟨⟨v,x⟩,n⟩:=C.cel y c e
  refine ⟨⟨v,cell_un U n x⟩,?_⟩
  obtain ⟨o,eo,_⟩:=x
  exact U.free c o eo n (by simp)
 cap:=fun c e => cell_un U (C.cel m c e).2 (C.cap c e)
def lamX (X:Cx) (s:Shared) (H:Hp) (q:Str) (scope:Scope) (f c':Addr) (clo:List (Str × Addr)) (N:List Str):Cx :=
 {prog:=X.prog,w:=X.w,K:=X.K,mg:=X.mg,base:=X.base,N:=N,s_0:=s,H_0:=H,outer:=X.stack,ex:=[],fn:=fun _ => false,calm:=true,pn:=[]
  A:=X.A.deeper (PySem.W.envX q scope s.heap.objs.size f (.ref c') clo)
  env:=PySem.W.envX q scope s.heap.objs.size f (.ref c') clo
  stack:=PySem.W.envX q scope s.heap.objs.size f (.ref c') clo :: X.stack
  xe:=fun e s' => wpAny (model X.prog X.w) (X.A.deeper (PySem.W.envX q scope s.heap.objs.size f (.ref c') clo)) (leaving (PySem.W.envX q scope s.heap.objs.size f (.ref c') clo) e)
   (fun _ t => L2.CX X.prog X.w X.stack H s (fun _ _ _ => False) e t) (fun e' t => L2.CX X.prog X.w X.stack H s (fun _ _ _ => False) e' t) s' }
section
variable {X:Cx} {pins:List (Addr × Obj)} {σ : L2.St} {H:Hp} {s:Shared} {q p m:Str} {scope:Scope} {f c':Addr} {clo:List (Str × Addr)} {u um:Value} {v vm:V}
theorem lamX_start {h₁ : Heap} {tk:Nat} (I:Inv X pins σ H s) (hh:X.A.handled = none) (L:LamP p m scope) (C:Cap clo scope m um H s.heap) (hns:h₁.Ns s.heap.objs.size fun y => ([(p,u)]:List (Str × Value)).reverse.lookup y) (kp:∀ b o,s.heap.get? b = some o→h₁.get? b = some o) (ru:L2.RelV v u) (rm:L2.RelV vm um) :
  Inv (lamX X s H q scope f c' clo [p,m]) [] [some v,some vm] H { s with heap:=h₁,toks:=tk }:=by
 have e0:=I.env0
 have stay:∀ {c:Addr} {w:Option Value},s.heap.IsCell c w→h₁.IsCell c w:=fun {c w} ⟨o,eo,d⟩ => ⟨o,kp _ _ eo,d⟩
 have nA:∀ b,b ∉ (lamX X s H q scope f c' clo [p,m]).ex:=fun b z => by
  have z':b ∈ ([]:List Addr):=z
  simp at z'
 exact
  {os:=rfl,bare:=e0.bare,base:=Un.kept kp,free:=e0.hok.fresh (Nat.le_refl _),hok:=e0.hok.kept kp,len:=rfl
   freeC:=fun y c e => (C.cel y c e).2
   cell:=fun y c e => let ⟨⟨w,x⟩,_⟩:=C.cel y c e; ⟨w,stay x⟩
   pin:=fun z hz => by
    have hz':z ∈ ([]:List (Addr × Obj)) ++ []:=hz
    simp at hz'
   loc:=by
    refine ⟨_,hns,fun i y w e1 e2 e3 => ?_⟩
    match i,e1,e2 with
    | 0,e1,e2 =>
     cases (show some p = some y from e1)
     cases (show some (some v) = some (some w) from e2)
     exact ⟨u,ru,.inl ⟨L.par,by simp⟩⟩
    | 1,e1,e2 =>
     cases (show some m = some y from e1)
     cases (show some (some vm) = some (some w) from e2)
     rcases e3 with z | z | z
     ·exact absurd z L.cap
     ·exact absurd rfl (L.cell _ (PySem.mem_of_lookup z))
     ·obtain ⟨c,ec⟩:=C.has m z
      exact ⟨um,rm,.inr ⟨.inr z,c,ec,stay (C.cap c ec)⟩⟩
    | i + 2,e1,e2 => simp [lamX] at e1
   ok :=
    {mod:=e0.mod,kind:=L.kind,glob:=rfl,blt:=rfl,above:=Nat.le_refl _,inj:=fun x y c a b => C.inj x y c a b,hd:=fun _ => hh,frames:=Around.frames_deeper e0.frames,stk:=.inr ⟨rfl,rfl⟩
     bs:=e0.bs,bsz:=e0.bsz,funs:=e0.funs,frf:=e0.frf
     has:=fun y hy => by
      rcases (show scope.names.lookup y = some .cell ∨ scope.names.lookup y = some .free from hy) with z | z
      ·exact absurd rfl (L.cell _ (PySem.mem_of_lookup z))
      ·exact C.has y z
     cab:=fun _ _ z => by cases (show false = true from z)
     exf:=fun b hb => absurd hb (nA b)
     noex:=fun b _ _ => nA b
     exfs:=fun b hb => absurd hb (nA b) } }
theorem lam_call {params:Arguments} {body:Expr} {pm ctv:Value} {co:Obj} {k:Nat} {tb:TE} {Q:VK} (I:Inv X pins σ H s) (hf:Kn H f (PySem.W.kla_obj "<lambda>" q params body scope clo pm c' ctv)) (hc:Kn H c' co) (hq:CodeZ co q)
  (L:LamP p m scope) (C:Cap clo scope m um H s.heap) (hb:bindArgs (PySem.W.kla_fn "<lambda>" q params body scope clo pm (.ref c') ctv) ⟨[u],[]⟩ = pure [(p,u)]) (hr:Room (k + 1) X.A) (ru:L2.RelV v u) (rm:L2.RelV vm um)
  (hbody:Room k (lamX X s H q scope f c' clo [p,m]).A→PE (lamX X s H q scope f c' clo [p,m]) body tb) (h:tb [some v,some vm] H Q) :
  wpAny (model X.prog X.w) X.A (call (.ref f) [u]) (EP X pins σ Q) X.xe s:=by
 obtain ⟨vs,t,hd,hv⟩:=hq
 have of1:=kn_get I.hok hf
 have oc1:=kn_get I.hok hc
 have rc:codeAny (model X.prog X.w) X.A (.call (.ref f) ⟨[u],[]⟩) (CR (L2.CX X.prog X.w) X.stack X.prog X.w H s Q fun _ _ _ => False) s:=by
  refine PySem.W.kla_callFunE hr.depth of1 rfl L.co L.gen rfl (Exists.intro c' (Exists.intro co (Exists.intro vs (Exists.intro t (And.intro rfl (And.intro oc1 (And.intro hd hv))))))) ?_
  rw [hb]
  refine wpAny_pure (wpAny_newFunctionEnv L.cell (fun y hy => ?_) (fun h₁ hns hsb => And.intro (I.nolimit.fresh _ hsb) ?_) L.kind)
  ·have e:y = (p,u):=by simpa using hy
   rw [e]
   exact L.par
  ·show codeAny _ _ (.expr body (PySem.W.envX q scope s.heap.objs.size f (.ref c') clo)) _ _
   have kp:∀ b o,s.heap.get? b = some o→h₁.get? b = some o:=fun b o e => (hsb.extBut) b o (Nat.ne_of_lt (Heap.lt_size e)) (Heap.get?_push_of_some _ e)
   have J:=lamX_start (q:=q) (f:=f) (c':=c') (tk:=s.toks + ([(p,u)]:List (Str × Value)).length) I hr.hd L C hns kp ru rm
   refine PySem.W.kla_codeExpr (wpAny_mono ((hbody (hr.deeper _)).run [] _ _ H Q J h) (fun x s' hx => ?_) fun _ _ hx => hx)
   obtain ⟨w',H',J',rv,hq'⟩:=hx
   exact Exists.intro w' (Exists.intro H' (And.intro J'.os (And.intro J'.bare (And.intro J'.base (And.intro J'.hok (And.intro rv hq'))))))
 refine wpAny_call (codeAny_mono rc fun r s' hr' => ?_)
 match r,hr' with
 | .ok (.ret x),hr' => exact I.after hr'
 | .ok .next,hr' => exact (show False from hr').elim
 | .ok .brk,hr' => exact (show False from hr').elim
 | .ok .cont,hr' => exact (show False from hr').elim
 | .error e,hr' =>
  obtain ⟨_,_,_,_,_,_,_,_,_,_,_,_,z⟩:=(show L2.CX X.prog X.w X.stack H s (fun _ _ _ => False) e s' from hr')
  exact z.elim
end
end PL
namespace PL
open PySem PySem.Spec PyProof.Rows L2
def withC (base h:Heap) (cs:List Addr):Heap:=PySem.W.hideAll h ((List.range h.objs.size).filter fun b => (base.get? b).isNone && !(cs.contains b))
theorem withC_of {base h:Heap} {cs:List Addr} {b:Addr} {o:Obj} (e:(withC base h cs).get? b = some o):h.get? b = some o∧(b ∈ cs ∨ ∃ o',base.get? b = some o'):=by
 have e':h.get? b = some o:=PySem.W.of_hideAll _ e
 refine ⟨e',?_⟩
 by_cases hc:b ∈ cs
 ·exact .inl hc
 ·cases q:base.get? b with
  | some o' => exact .inr ⟨o',rfl⟩
  | none =>
   have z:(withC base h cs).get? b = none:=PySem.W.hideAll_none _ (List.mem_filter.mpr ⟨List.mem_range.mpr (Heap.lt_size e'),by simp [q,hc]⟩)
   rw [z] at e; cases e
theorem withC_get {base h:Heap} {cs:List Addr} {b:Addr} {o:Obj} (e:h.get? b = some o) (n:b ∈ cs ∨ ∃ o',base.get? b = some o'):(withC base h cs).get? b = some o :=
 PySem.W.hideAll_get _ e fun hm => by
  have q:=(List.mem_filter.mp hm).2
  rcases n with n | ⟨o',n⟩
  ·simp [n] at q
  ·simp [n] at q
theorem funs_base {h base base':Heap}:∀ {l:List Env},h.FunFrames base l→(∀ b ∈ frs l,base'.get? b = none)→h.FunFrames base' l
 | [],_,_ => trivial
 | env :: rest,⟨hk,⟨L,o,hf,hn,ho,hd⟩,hr⟩,k => ⟨hk,⟨L,o,hf,k L (by unfold frs; rw [List.filterMap_cons,hf]; exact List.mem_cons_self),ho,hd⟩,funs_base hr fun b hb => k b (by unfold frs at hb ⊢; rw [List.filterMap_cons,hf]; exact List.mem_cons_of_mem _ hb)⟩
section
variable {X:Cx} {W:WX} {pins:List (Addr × Obj)} {σ : L2.St} {H:Hp} {s:Shared}
theorem base_withC {cs:List Addr} (I:Inv X pins σ H s):∀ b o,X.base.get? b = some o→(withC X.base s.heap cs).get? b = some o:=fun b o e => withC_get (I.bk b o e) (.inr ⟨o,e⟩)
theorem env0C (I:Inv X pins σ H s) {cs:List Addr} (hc:∀ c ∈ cs,∃ y,X.env.cells.lookup y = some c) (hfn:∀ y,X.fn y = true):Env0 X.prog X.w X.K X.mg (withC X.base s.heap cs) X.A X.stack s H:=by
 have e0:=I.env0
 have up:=base_withC (cs:=cs) I
 refine ⟨e0.frames,⟨e0.mod.kin.keeps up,e0.mod.glob.keeps up,?_,e0.mod.nolimit.keeps up⟩,fun b o e => ?_,Nat.le_of_eq (PySem.W.hideAll_size _ _),funs_base I.stack fun b hb => ?_,e0.frf,e0.hok,e0.bare⟩
 ·obtain ⟨mb,h1,h2⟩:=e0.mod.blt
  exact ⟨mb,h1.keeps up,h2⟩
 ·obtain ⟨e1,e2⟩:=withC_of e
  refine ⟨e1,?_⟩
  rcases e2 with m | ⟨o',m⟩
  ·obtain ⟨y,hy⟩:=hc b m
   exact I.freeC y b hy
  ·exact (I.bs b o' m).2
 ·cases q:(withC X.base s.heap cs).get? b with
  | none => rfl
  | some o =>
   exfalso
   obtain ⟨e1,e2⟩:=withC_of q
   rcases e2 with m | ⟨o',m⟩
   ·obtain ⟨y,hy⟩:=hc b m
    rcases List.mem_cons.mp (I.stkSub b hb) with z | z
    ·exact I.cne y b hy z
    ·obtain ⟨_,o2,ho,_⟩:=I.ok.funs.mem z
     exact absurd (Heap.lt_size ho) (Nat.not_lt.mpr (I.ok.cab y b (hfn y) hy))
   ·have z:=(I.stack.mem hb).1
    rw [m] at z; cases z
end
structure LamD where
 q:Str
 p:Str
 m:Str
 scope:Scope
 params:Arguments
 body:Expr
structure LamS1 (k:Nat) (D:LamD) (B:EM PV):Prop where
 sc:LamP D.p D.m D.scope
 bind:∀ (q:Str) (cl:List (Str × Addr)) (pm cv ctv u:Value),bindArgs (PySem.W.kla_fn "<lambda>" q D.params D.body D.scope cl pm cv ctv) ⟨[u],[]⟩ = pure [(D.p,u)]
 body:∀ (X:Cx) (s:Shared) (H:Hp) (f c':Addr) (clo:List (Str × Addr)),Room k (lamX X s H D.q D.scope f c' clo [D.p,D.m]).A→RE (lamX X s H D.q D.scope f c' clo [D.p,D.m]) (fun _ _ _ _ => False) D.body B
structure LamB (base:Heap) (clo:List (Str × Addr)) (scope:Scope) (m:Str) (um:Value):Prop where
 inj:∀ x y c,clo.lookup x = some c→clo.lookup y = some c→x = y
 has:∀ y,scope.names.lookup y = some .free→∃ c,clo.lookup y = some c
 cel:∀ y c,clo.lookup y = some c→∃ v,base.IsCell c v
 cap:∀ c,clo.lookup m = some c→base.IsCell c (some um)
def LamF (base:Heap) (f c':Addr) (fo co:Obj) (vm:V) (D:LamD):Prop :=
 ∃ (clo:List (Str × Addr)) (pm ctv um:Value),fo = PySem.W.kla_obj "<lambda>" D.q D.params D.body D.scope clo pm c' ctv∧LamB base clo D.scope D.m um∧L2.RelV vm um∧CodeZ co D.q
theorem LamB.at_ {base:Heap} {clo:List (Str × Addr)} {scope:Scope} {m:Str} {um:Value} (C:LamB base clo scope m um) {H:Hp} {h:Heap} (bs:∀ b o,base.get? b = some o→h.get? b = some o∧H b = none):Cap clo scope m um H h where
 inj:=C.inj
 has:=C.has
 cel:=fun y c e => by
  obtain ⟨v,o,ho,hd⟩:=C.cel y c e
  exact ⟨⟨v,o,(bs c o ho).1,hd⟩,(bs c o ho).2⟩
 cap:=fun c e => by
  obtain ⟨o,ho,hd⟩:=C.cap c e
  exact ⟨o,(bs c o ho).1,hd⟩
open Classical in
noncomputable def lamCM (i:Nat) (f:Addr) (vm:V) (B:EM PV) (ms:EM (List PV)):EM PV:=fun τ S => match τ[i]? with
 | some (some (.fn f' vm' m)) => if f' = f∧vm' = vm then bnd (ms τ S) fun ps S1 => (match ps with
   | [p] => (match B [some p,some m] S1 with | .ok v S2 => .ok v S2 | _ => .bad)
   | _ => .bad) else .bad
 | _ => .bad
section
variable {X:Cx} {W:WX} {e:Expr} {es:List Expr} {ms:EM (List PV)} {f c':Addr} {fo co:Obj} {vm:V} {D:LamD} {B:EM PV} {k:Nat} {pos p1:Pos}
theorem re_lamc (i:Nat) {a:Str} (hN:X.N[i]? = some a) (hva:Vis X.env.scope a) (hX:Kn X.H_0 f fo∧Kn X.H_0 c' co) (LS:LamS1 k D B) (LF:LamF X.base f c' fo co vm D) (hr:Room (k + 1) X.A) (ha:RA X W [e] ms)
  (hd:(a == ("__debug__" : Str)) = false:=by decide) (hcd:(a == ("__classdict__" : Str)) = false:=by decide) (he:starEach [e] X.env = (false,eval e X.env) :: starEach [] X.env:=by rfl):RE X W (.Call (.Name a p1) [e] [] pos) (lamCM i f vm B ms):=by
 refine ⟨⟨fun pins s σ H Q I h => ?_⟩⟩
 obtain ⟨ι,τ,S,r,ρ,pk⟩:=h
 unfold lamCM at pk
 split at pk
 ·rename_i f' vm' m hτ
  split at pk
  ·rename_i hff
   obtain ⟨rfl,rfl⟩:=hff
   obtain ⟨v,hs,hv⟩:=ρ.get hτ
   obtain ⟨rfl,hm⟩:=hv
   refine wpAny_Call_Name_kw (thn ((pe_var (pos:=p1) (i:=i) hN hva hd hcd).run pins s σ H (fun v H1 => v = .ref f'∧H1 = H) I ⟨.ref f',hs,rfl,rfl⟩) fun u s1 ⟨v,H1,I1,r1,q1⟩ => ?_)
   obtain ⟨ev,eH⟩:=q1
   subst ev
   subst eH
   obtain rfl:u = Value.ref f':=r1
   obtain ⟨clo,pm,ctv,um,efo,CB,rvm,hq⟩:=LF
   have kf:∀ {H2:Hp} {s2:Shared} {σ2:L2.St} {pins2:List (Addr × Obj)},Inv X pins2 σ2 H2 s2→Kn H2 f' fo∧Kn H2 c' co:=fun J => ⟨J.base.frzs _ _ _ hX.1,J.base.frzs _ _ _ hX.2⟩
   have fat:∀ {H2:Hp} {s2:Shared} {σ2:L2.St} {pins2:List (Addr × Obj)},Inv X pins2 σ2 H2 s2→PySem.W.FnAt f' s2.heap:=fun J => by
    have z:=kn_get J.hok (kf J).1
    rw [efo] at z
    exact ⟨_,_,_,_,z⟩
   refine PySem.W.callWith_F (fat I1) (thn (ha.pa.run pos pins s1 σ _ _ I1 ⟨ι,τ,S,r,ρ,pk.next⟩) fun us s2 ⟨vs,H2,I2,rv,q2⟩ => ⟨fat I2,?_⟩) he (by rfl)
   obtain ⟨ps,ι2,S2,e2,r2,l2,pk2⟩:=q2
   split at pk2
   ·rename_i p
    obtain ⟨vp,rr,rfl,hp,z⟩:=l2
    cases (show rr = [] from z)
    cases rv with
    | cons rp rt =>
     cases rt
     have kn:=kf I2
     rw [efo] at kn
     refine lam_call (k:=k) I2 kn.1 kn.2 hq LS.sc (CB.at_ I2.bs) (LS.bind _ _ _ _ _ _) hr rp rvm (fun hr' => (LS.body X s2 H2 f' c' clo hr').pe) ?_
     refine ⟨ι2,[some p,some m],S2,r2,⟨_,_,rfl,hp,_,_,rfl,Rp.up hm e2,rfl⟩,?_⟩
     show wp (B [some p,some m] S2) _ _
     cases hB:B [some p,some m] S2 with
     | ok v S3 => rw [hB] at pk2; exact pk2
     | er c q S3 => rw [hB] at pk2; exact pk2.elim
     | bad => rw [hB] at pk2; exact pk2.elim
   ·exact pk2.elim
  ·exact pk.elim
 ·exact pk.elim
end
end PL
namespace PL
open PySem PySem.Spec PyProof.Rows L2
def spL (f c':Addr) (fo co:Obj) (sp:Sp):Sp:=fun vs H Q E => (Kn H f fo∧Kn H c' co)∧sp vs H Q E
section
variable {X:Cx} {W:WX} {e:Expr} {es:List Expr} {mas:EM (List PV)} {f c':Addr} {fo co:Obj} {pos:Pos}
theorem re_callL {x:Str} {p:Pos} {n k:Nat} {F:FM} {g:Addr} {fd:FuncData} {ps:List Str} (hX:Kn X.H_0 f fo∧Kn X.H_0 c' co) (G:FnOk X.prog X.w X.K X.mg X.base (L2.CX X.prog X.w) k g fd ps (spL f c' fo co (spD X.prog X.w X.K X.mg n F))) (hr:Room k X.A) (hg:Gl X x) (hm:X.mg x = some (.ref g)) (hk:PySem.W.keepIn X.K (.ref g) = true) (hb:Binds X.K fd ps [])
  (tk:Takes X W) (ha:RA X W (e :: es) mas) (hn:∀ τ S qs S',mas τ S = .ok qs S'→qs.length = n) (hdb:(x == ("__debug__" : Str)) = false:=by decide) (he:starEach (e :: es) X.env = (false,eval e X.env) :: starEach es X.env:=by rfl) (hpl:(backTo pos (starEach es X.env)).any (·.1) = false:=by rfl) :
  RE X W (.Call (.Name x p) (e :: es) [] pos) (callD F mas):=by
 have key:=pe_callSD (pos:=pos) (p:=p) (dvs:=[]) (E:=WE W) G hr hg hm hk hb .nil (fun σ => passAt tk σ) ha.pa hdb he hpl
 refine ⟨⟨fun pins s σ H Q I h => key.run pins s σ H Q I ?_⟩⟩
 have k1:=I.base.frzs _ _ _ hX.1
 have k2:=I.base.frzs _ _ _ hX.2
 obtain ⟨ι,τ,S,r,ρ,pk⟩:=h
 refine ⟨ι,τ,S,r,ρ,?_⟩
 have hn':=hn τ S
 unfold callD at pk
 cases hm:mas τ S with
 | bad => rw [hm] at pk; exact pk.elim
 | er c p S' => rw [hm] at pk; exact pk
 | ok qs S1 =>
  have hl:=hn' qs S1 hm
  rw [hm] at pk
  show ∀ ι' H' x,Ext ι H ι' H'→RSt X.prog X.w X.K X.mg ι' H' S1→RpL X.K ι' H' qs x→spL f c' fo co (spD X.prog X.w X.K X.mg n F) (x ++ []) H' Q (WE W σ)
  intro ι' H' x e' r' q'
  rw [List.append_nil]
  exact ⟨⟨e'.frzs _ _ _ k1,e'.frzs _ _ _ k2⟩,call_wish r' q' hl (Pk.up (o:=F qs S1) pk e')⟩
end
section
variable {P:Program} {w:World} {K:PySem.W.Frag} {mg:Str→Option Value} {base:Heap} {f c':Addr} {fo co:Obj}
theorem fn_badL {k:Nat} {g:Addr} {fd:FuncData} {ps:List Str} {n:Nat} (hn:n = ps.length:=by rfl):FnOk P w K mg base (L2.CX P w) k g fd ps (spL f c' fo co (spD P w K mg n fun _ _ => .bad)) :=
 (fn_bad (n:=n) hn).imp fun vs H Q E h => h.2
theorem fn_bodyL {x qual:Str} {st:Stmt} {g:Addr} {fd:FuncData} {N ps:List Str} {k n:Nat} {body:SM} (F:Fun K x qual st g fd) (S:FnScope N ps (defScope st)) (hn:ps.length = n)
  (h:∀ (cdv:Value) (A:Around) (outer:List Env) (s:Shared) (H:Hp) (Q:VK) (E:XK),Room k (A.deeper (envOfC qual (defScope st) s.heap.objs.size g cdv))→Kn H f fo∧Kn H c' co →
   RSs (cxOf (L2.CX P w) P w K mg base N qual (defScope st) g cdv A outer s H E) (fun cls d _ H => E cls d H) (defBody st) body) :
  FnOk P w K mg base (L2.CX P w) (k + 1) g fd ps (spL f c' fo co (spD P w K mg n (callS N.length body))):=by
 refine F.okX S (fun vs H Q E hh => (spD_len vs H Q E hh.2).trans hn.symm) fun cdv A outer s H vs Q E hr ⟨hk,ι,Sto,qs,r,rv,l,hw⟩ => ⟨_,(h cdv A outer s H Q E hr hk).pss,?_⟩
 refine ⟨ι,startE N.length qs,Sto,r,REn.start rv,?_⟩
 unfold callS at hw
 cases hb:body (startE N.length qs) Sto with
 | nx τ S' => rw [hb] at hw; exact fun ι' H' σ' e r' _ => hw ι' H' .non e r' rfl
 | rt v S' => rw [hb] at hw; exact hw
 | er c p τ S' => rw [hb] at hw; exact fun ι' H' σ' Ca d x e r' _ m hd hp => hw ι' H' Ca d x e r' m hd hp
 | bad => rw [hb] at hw; exact hw.elim
theorem fn_bodyC {x qual:Str} {st:Stmt} {g:Addr} {fd:FuncData} {N ps:List Str} {k n:Nat} {body:SM} (F:Fun K x qual st g fd) (S:FnScope N ps (defScope st)) (hn:ps.length = n)
  (h:∀ (cdv:Value) (A:Around) (outer:List Env) (s:Shared) (H:Hp) (Q:VK) (E:XK),Room k (A.deeper (envOfC qual (defScope st) s.heap.objs.size g cdv))→CodeAt K g cdv →
   RSs (cxOf (L2.CX P w) P w K mg base N qual (defScope st) g cdv A outer s H E) (fun cls d _ H => E cls d H) (defBody st) body) :
  FnOk P w K mg base (L2.CX P w) (k + 1) g fd ps (spD P w K mg n (callS N.length body)):=by
 obtain ⟨oc,od,kV,doc,pm,an,cdv,ct,osl,rfl,lk,hcd⟩:=F.ex
 refine fn_of lk hcd S (fun vs H Q E hh => (spD_len vs H Q E hh).trans hn.symm) fun A outer s H vs Q E hr ⟨ι,Sto,qs,r,rv,l,hw⟩ => ⟨_,(h cdv A outer s H Q E hr ⟨_,_,_,_,_,_,_,_,_,_,_,_,_,_,lk⟩).pss,?_⟩
 refine ⟨ι,startE N.length qs,Sto,r,REn.start rv,?_⟩
 unfold callS at hw
 cases hb:body (startE N.length qs) Sto with
 | nx τ S' => rw [hb] at hw; exact fun ι' H' σ' e r' _ => hw ι' H' .non e r' rfl
 | rt v S' => rw [hb] at hw; exact hw
 | er c p τ S' => rw [hb] at hw; exact fun ι' H' σ' Ca d x e r' _ m hd hp => hw ι' H' Ca d x e r' m hd hp
 | bad => rw [hb] at hw; exact hw.elim
end
mutual
theorem Rp.trim {K:PySem.W.Frag} {ι2 ι':List Addr} {H3 H':Hp} (e:Ext ι2 H3 ι' H'):∀ (x:PV) (v0 v:V),Rp K ι2 H3 x v0→Rp K ι' H' x v→Rp K ι2 H' x v
 | .non,_,_,_,h => h
 | .bl _,_,_,_,h => h
 | .int _,_,_,_,h => h
 | .str _,_,_,_,h => h
 | .tup xs,v0,v,h0,h => by
  obtain ⟨a0,vs0,_,_,r0⟩:=h0
  obtain ⟨a,vs,e1,e2,e3⟩:=h
  exact ⟨a,vs,e1,e2,RpL.trim e xs vs0 vs r0 e3⟩
 | .fls xs,v0,v,h0,h => by
  obtain ⟨a0,vs0,_,_,r0⟩:=h0
  obtain ⟨a,vs,e1,e2,e3⟩:=h
  exact ⟨a,vs,e1,e2,RpL.trim e xs vs0 vs r0 e3⟩
 | .loc l,v0,v,h0,h => by
  obtain ⟨a0,_,e0⟩:=h0
  obtain ⟨a1,e1,e2⟩:=h
  have z:=e.pre l a0 e0
  rw [e2] at z
  have z':a1 = a0:=Option.some.inj z
  exact ⟨a0,by rw [e1,z'],e0⟩
 | .fn a u m,v0,v,h0,h => ⟨h.1,by
  obtain ⟨_,h0⟩:=h0
  obtain ⟨_,h⟩:=h
  exact Rp.trim e m u u h0 h⟩
theorem RpL.trim {K:PySem.W.Frag} {ι2 ι':List Addr} {H3 H':Hp} (e:Ext ι2 H3 ι' H'):∀ (xs:List PV) (vs0 vs:List V),RpL K ι2 H3 xs vs0→RpL K ι' H' xs vs→RpL K ι2 H' xs vs
 | [],_,_,_,h => h
 | x :: xs,vs0,vs,h0,h => by
  obtain ⟨v0,r0,_,a0,b0⟩:=h0
  obtain ⟨v,r,e1,e2,e3⟩:=h
  exact ⟨v,r,e1,Rp.trim e x v0 v a0 e2,RpL.trim e xs r0 r b0 e3⟩
end
theorem RpF.trim {K:PySem.W.Frag} {ι2 ι':List Addr} {H3 H':Hp} {κ : Type} (e:Ext ι2 H3 ι' H'):∀ (xs:List (κ × PV)) (vs0 vs:List (κ × V)),RpF K ι2 H3 xs vs0→RpF K ι' H' xs vs→RpF K ι2 H' xs vs
 | [],_,_,_,h => h
 | (k,x) :: xs,vs0,vs,h0,h => by
  obtain ⟨v0,r0,_,a0,b0⟩:=h0
  obtain ⟨v,r,e1,e2,e3⟩:=h
  exact ⟨v,r,e1,Rp.trim e x v0 v a0 e2,RpF.trim e xs r0 r b0 e3⟩
theorem RSt.trim {P:Program} {w:World} {K:PySem.W.Frag} {mg:Str→Option Value} {ι2 ι':List Addr} {H3 H':Hp} {S2 S4:Sto} (r2:RSt P w K mg ι2 H3 S2) (e:Ext ι2 H3 ι' H') (r':RSt P w K mg ι' H' S4) (k:Keep [] S2 S4):RSt P w K mg ι2 H' S2 where
 len:=r2.len
 nd:=r2.nd
 obj:=fun l a o h1 h2 => by
  have o2:=r2.obj l a o h1 h2
  have o4:=r'.obj l a o (e.pre l a h1) (k.get h2 (by simp))
  cases o with
  | lst xs => obtain ⟨v0,_,q0⟩:=o2; obtain ⟨v,p,q⟩:=o4; exact ⟨v,p,RpL.trim e xs v0 v q0 q⟩
  | dct xs => obtain ⟨v0,_,q0⟩:=o2; obtain ⟨v,p,q⟩:=o4; exact ⟨v,p,RpF.trim e xs v0 v q0 q⟩
  | ins C fs => obtain ⟨_,_,v0,_,_,q0⟩:=o2; obtain ⟨Ca,dx,v,m,p,q⟩:=o4; exact ⟨Ca,dx,v,m,p,RpF.trim e fs v0 v q0 q⟩
  | dtp xs => obtain ⟨v0,_,_,q0⟩:=o2; obtain ⟨v,p,z,q⟩:=o4; exact ⟨v,p,z,RpF.trim e xs _ _ q0 q⟩
  | tab nm q => exact o4
  | exc C p => obtain ⟨_,_,_,_,_,_,_,_,_,_,_,q0⟩:=o2; obtain ⟨oe,Ca,dd,x,q,m,c1,c2,c3,nd,hd,r⟩:=o4; exact ⟨oe,Ca,dd,x,q,m,c1,c2,c3,(fun z => nd (by obtain ⟨l,hl,e'⟩:=List.mem_iff_getElem.mp z; exact List.mem_of_getElem? (e.pre l dd (by rw [List.getElem?_eq_getElem hl,e'])))),hd,Rp.trim e p _ _ q0 r⟩
  | ndt xs => obtain ⟨v0,_,_,q0⟩:=o2; obtain ⟨v,p,z,q⟩:=o4; exact ⟨v,p,z,RpF.trim e xs _ _ q0 q⟩
theorem Ext.trim {ι2 ι':List Addr} {H3 H':Hp} (e:Ext ι2 H3 ι' H'):Ext ι2 H3 ι2 H':=⟨fun _ _ h => h,e.fr,fun a h => .inl h,e.tups,e.frzs⟩
mutual
theorem Pl.any {K:PySem.W.Frag} {ι ι2:List Addr} {H:Hp}:∀ (n:Nat) (p:PV) (v:V),Pl n p→Rp K ι H p v→Rp K ι2 H p v
 | _,.non,_,_,h => h
 | _,.int _,_,_,h => h
 | _,.str _,_,_,h => h
 | n + 1,.tup xs,v,hp,h => by
  obtain ⟨a,vs,e1,e2,e3⟩:=h
  exact ⟨a,vs,e1,e2,PlL.any n xs vs (by simpa [Pl] using hp) e3⟩
 | 0,.tup _,_,hp,_ => by simp [Pl] at hp
 | n,.bl _,_,hp,_ => by cases n <;> simp [Pl] at hp
 | n,.fls _,_,hp,_ => by cases n <;> simp [Pl] at hp
 | n,.loc _,_,hp,_ => by cases n <;> simp [Pl] at hp
 | n,.fn _ _ _,_,hp,_ => by cases n <;> simp [Pl] at hp
theorem PlL.any {K:PySem.W.Frag} {ι ι2:List Addr} {H:Hp}:∀ (n:Nat) (xs:List PV) (vs:List V),PlL n xs→RpL K ι H xs vs→RpL K ι2 H xs vs
 | _,[],_,_,h => h
 | n,x :: xs,vs,hp,h => by
  have hp':Pl n x∧PlL n xs:=by simpa [PlL] using hp
  obtain ⟨v,r,e1,e2,e3⟩:=h
  exact ⟨v,r,e1,Pl.any n x v hp'.1 e2,PlL.any n xs r hp'.2 e3⟩
end
end PL
namespace PL
open PySem PySem.Spec PyProof.Rows L2
theorem codeHd_fld {K:PySem.W.Frag} {c P:Addr} (h:PySem.W.codeHdIn K c P = true):∃ (o:Obj) (vs:Array Value),K.lookup c = some o∧o.data = .fields vs∧vs[11]? = some (.ref P):=by
 unfold PySem.W.codeHdIn at h
 split at h
 ·rename_i hk
  simp only [Bool.and_eq_true] at h
  obtain ⟨⟨⟨⟨⟨e1,_⟩,_⟩,_⟩,_⟩,_⟩:=h
  split at e1
  ·rename_i P0 h11
   have a:=beq_iff_eq.mp e1
   exact ⟨_,_,hk,rfl,by rw [h11,a]⟩
  ·cases e1
 ·cases h
theorem codeHd_one {K:PySem.W.Frag} {c P P':Addr} (h:PySem.W.codeHdIn K c P = true) (h':PySem.W.codeHdIn K c P' = true):P = P':=by
 obtain ⟨o,vs,a1,a2,a3⟩:=codeHd_fld h
 obtain ⟨o',vs',b1,b2,b3⟩:=codeHd_fld h'
 rw [a1] at b1; cases b1
 rw [a2] at b2; cases b2
 rw [a3] at b3; cases b3
 rfl
theorem CodeAt.one {K:PySem.W.Frag} {f:Addr} {v v':Value} (h:CodeAt K f v) (h':CodeAt K f v'):v = v':=by
 obtain ⟨_,_,_,_,_,_,_,_,_,_,_,_,_,_,e⟩:=h
 obtain ⟨_,_,_,_,_,_,_,_,_,_,_,_,_,_,e'⟩:=h'
 rw [e] at e'
 simp only [Option.some.injEq,Obj.mk.injEq,Data.func.injEq,PySem.W.fnOf,FuncData.mk.injEq] at e'
 simp_all
theorem TabB_up {base base':Heap} {mg:Str→Option Value} {c P:Addr} (T:LamX.TabB base mg c P) (k:∀ b o,base.get? b = some o→base'.get? b = some o):LamX.TabB base' mg c P:=⟨T.code.keeps k,T.bm.keeps k,T.gP⟩
theorem made_rst {ΩP:Program} {Ωw:World} {K:PySem.W.Frag} {mg:Str→Option Value} {ι : List Addr} {H H1:Hp} {S:Sto} {P f c':Addr} {q nm:Str} {fo co:Obj} (r:RSt ΩP Ωw K mg ι H S) (M:Made H H1 P f c' q fo co) (h0 : ι[0]? = some P) (hS:S[0]? = some (.tab nm q)) :
  Ext ι H ι H1∧RSt ΩP Ωw K mg ι H1 S:=by
 have oP:=r.obj 0 P _ h0 hS
 have e:Ext ι H ι H1:=⟨fun _ _ h => h,fun a o h n => M.keep a o (fun z => n (z ▸ List.mem_of_getElem? h0)) h,fun a h => .inl h,
  fun a xs h => M.keep a _ (fun z => (OR.mut (oP)).2.2.1 xs (z ▸ h)) h,fun a o u h => M.keep a _ (fun z => (OR.mut (oP)).2.2.2 o u (z ▸ h)) h⟩
 refine ⟨e,r.len,r.nd,fun l a o h1 h2 => ?_⟩
 by_cases hl:l = 0
 ·subst hl
  rw [h0] at h1; cases h1
  rw [hS] at h2; cases h2
  exact ⟨M.tab,oP.2⟩
 ·have ne:a ≠ P:=fun z => hl (by
   subst z
   have l1:=(List.getElem?_eq_some_iff.mp h1)
   have l0:=(List.getElem?_eq_some_iff.mp h0)
   obtain ⟨p1,q1⟩:=l1
   obtain ⟨p0,q0⟩:=l0
   have hp:=List.pairwise_iff_getElem.mp r.nd
   cases l with
   | zero => rfl
   | succ l => exact absurd (q0.trans q1.symm) (hp 0 (l + 1) p0 p1 (by omega)))
  have old:=r.obj l a o h1 h2
  refine OR.up_other old e ?_
  cases q:H a with
  | none => exact absurd q (OR.mut old).2.1
  | some ho => exact M.keep a ho ne q
section
variable {X:Cx} {pins:List (Addr × Obj)} {σ : L2.St} {H:Hp} {s:Shared}
end
def capOf (j:Option Nat) (τ : En):Option PV:=match j with
 | none => some .non
 | some i => match τ[i]? with | some (some m) => some m | _ => none
open Classical in
noncomputable def lamchM (nm q:Str) (F:Addr→V→FM) (j:Option Nat) (m1 m2:EM PV):EM PV:=fun τ S => bnd (m1 τ S) fun p1 S1 => bnd (m2 τ S1) fun p2 S2 =>
 match capOf j τ with
 | none => .bad
 | some m => if S2[0]? = some (.tab nm q) then (if h:∃ (v:PV) (n:Nat),Pl n v∧∀ f vm,wp (F f vm [p1,p2,.fn f vm m] S2) (fun v' S4 => v' = v∧Keep [] S2 S4) (fun _ _ _ => False) then .ok (Classical.choose h) S2 else .bad) else .bad
section
variable {X:Cx} {W:WX} {e1 e2:Expr} {m1 m2:EM PV} {pos p lpos:Pos}
theorem re_lamch {x nm:Str} {k:Nat} {F:Addr→V→FM} {g gm c P:Addr} {fd:FuncData} {ps:List Str} {j:Option Nat} {D:LamD}
  (hnm:X.mg nm = some (.ref gm)) (hcd:CodeAt X.K gm X.env.code) (TB:LamX.TabB X.base X.mg c P) (hcP:PySem.W.codeHdIn X.K c P = true) (hcode:CodeAt X.K gm (.ref c)) (hq:X.env.qual ++ "<lambda>" = D.q)
  (G:∀ (base':Heap) (f c':Addr) (fo co:Obj) (vm:V),(∀ b o,X.base.get? b = some o→base'.get? b = some o)→LamF base' f c' fo co vm D →
   FnOk X.prog X.w X.K X.mg base' (L2.CX X.prog X.w) k g fd ps (spL f c' fo co (spD X.prog X.w X.K X.mg 3 (F f vm))))
  (hr:Room k X.A) (hg:Gl X x) (hm:X.mg x = some (.ref g)) (hk:PySem.W.keepIn X.K (.ref g) = true) (hb:Binds X.K fd ps []) (hps:ps.length = 3) (tk:Takes X W) (h1:RE X W e1 m1) (h2:RE X W e2 m2)
  (hdef:defaultsOf D.params X.env = ([],[])) (hfr:∀ y ∈ D.scope.names,y.2 = .free→X.env.scope.names.lookup y.1 = some .cell) (hfn:∀ y,X.fn y = true)
  (hj:match j with | none => D.scope.names.lookup D.m = none | some i => X.N[i]? = some D.m∧X.env.scope.names.lookup D.m = some .cell)
  (hdb:(x == ("__debug__" : Str)) = false:=by decide) (he:starEach [e1,e2,.Lambda D.params D.body D.scope lpos] X.env = (false,eval e1 X.env) :: starEach [e2,.Lambda D.params D.body D.scope lpos] X.env:=by rfl)
  (he2:backTo pos (starEach [e2,.Lambda D.params D.body D.scope lpos] X.env) = (false,eval e2 X.env) :: (false,eval (.Lambda D.params D.body D.scope lpos) X.env) :: []:=by rfl) (hpl:(backTo pos (starEach [e2,.Lambda D.params D.body D.scope lpos] X.env)).any (·.1) = false:=by rfl) :
  RE X W (.Call (.Name x p) [e1,e2,.Lambda D.params D.body D.scope lpos] [] pos) (lamchM nm D.q F j m1 m2):=by
 refine ⟨⟨fun pins s σ H Q I h => ?_⟩⟩
 obtain ⟨ι,τ,S,r,ρ,pk⟩:=h
 refine wpAny_Call_Name_kw (ld_glob I hg hm ?_ hdb)
 refine PySem.W.callWith_K (h₀:=X.base) I.ok.mod.kin hk ?_ he hpl
 rw [he]
 show wpAny _ _ (spliced ((false,eval e1 X.env) :: backTo pos (starEach [e2,.Lambda D.params D.body D.scope lpos] X.env))) _ _ s
 rw [he2]
 refine Calls.spliced_cons (thn (h1.pe.run pins s σ H _ I ⟨ι,τ,S,r,ρ,pk.next⟩) fun u1 s1 ⟨v1,H1,I1,rv1,p1,ι1,S1,E1,r1,q1,pk1⟩ => ?_)
 refine Calls.spliced_cons (thn (h2.pe.run pins s1 σ H1 _ I1 ⟨ι1,τ,S1,r1,ρ.up E1,pk1.next⟩) fun u2 s2 ⟨v2,H2,I2,rv2,p2,ι2,S2,E2,r2,q2,pk2⟩ => ?_)
 split at pk2
 ·exact pk2.elim
 ·rename_i m hcap
  split at pk2
  ·rename_i htab
   split at pk2
   ·rename_i hex
    obtain ⟨a0,ha0,oT⟩:=r2.get htab
    obtain ⟨tz,f0,c0,hf0,hc0,hh0⟩:=oT
    rw [hnm] at hf0
    cases hf0
    have ec:Value.ref c0 = Value.ref c:=hc0.one hcode
    cases ec
    have eP:=codeHd_one hcP hh0
    subst eP
    have hcode':X.env.code = .ref c:=hcd.one hcode
    have hfree:∀ y ∈ D.scope.names,y.2 = .free→∃ c,X.env.cells.lookup y.1 = some c:=fun y hy e => I2.ok.has _ (.inl (hfr y hy e))
    rw [← hq] at tz
    refine Calls.spliced_cons (lam_mk I2 TB hcode' tz hdef hfree fun f c' pm ctv co H3 s3 I3 M => ?_)
    refine Calls.spliced_nil ⟨I3.kIn,?_⟩
    have M':=M
    rw [hq] at M'
    obtain ⟨E3,r3⟩:=made_rst r2 M' ha0 htab
    have cap:∃ (vm:V) (um:Value),L2.RelV vm um∧Rp X.K ι2 H3 m vm∧∀ cc,(cloFrom X.env.cells D.scope.names []).lookup D.m = some cc→s3.heap.IsCell cc (some um):=by
     cases j with
     | none =>
      have:m = .non:=by simpa [capOf] using hcap.symm
      subst this
      refine ⟨.non,.none,rfl,rfl,fun cc hcc => ?_⟩
      rcases cloFrom_mem (PySem.mem_of_lookup hcc) with z | ⟨z,_⟩
      ·cases z
      ·have hj':D.scope.names.lookup D.m = none:=hj
       exact absurd z (fun z => by
        have:=List.lookup_eq_none_iff.mp hj' _ z
        simp at this)
     | some i =>
      obtain ⟨hNi,hcell⟩:=hj
      simp only [capOf] at hcap
      split at hcap
      ·rename_i m' hτ
       cases hcap
       obtain ⟨vm,hs,hv⟩:=(((ρ.up E1).up E2).up E3).get hτ
       obtain ⟨mm,hn,hl⟩:=I3.loc
       obtain ⟨um,ru,look⟩:=hl i D.m vm hNi hs (.inr (.inl hcell))
       refine ⟨vm,um,ru,hv,fun cc hcc => ?_⟩
       have hcc':=NdefX.clo_cm hfree hcc
       rcases look with ⟨z,_⟩ | ⟨_,c1,hc1,z⟩
       ·have z':X.env.scope.names.lookup D.m = some .local:=z
        rw [hcell] at z'; cases z'
       ·rw [hcc'] at hc1; cases hc1
        exact z
      ·cases hcap
    obtain ⟨vm,um,rum,hvm,hcapd⟩:=cap
    let cs:List Addr:=(cloFrom X.env.cells D.scope.names []).map (·.2)
    have mem_cs:∀ y cc,(cloFrom X.env.cells D.scope.names []).lookup y = some cc→cc ∈ cs:=fun y cc hcc => List.mem_map.mpr ⟨(y,cc),PySem.mem_of_lookup hcc,rfl⟩
    have cs_of:∀ cc ∈ cs,∃ y,X.env.cells.lookup y = some cc:=fun cc hcc => by
     obtain ⟨⟨y,c1⟩,hm1,rfl⟩:=List.mem_map.mp hcc
     rcases cloFrom_mem hm1 with z | ⟨h1,h2⟩
     ·cases z
     ·obtain ⟨c2,hc2⟩:=hfree _ h1 rfl
      refine ⟨y,?_⟩
      have hc2:X.env.cells.lookup y = some c2:=hc2
      have e2:c1 = c2:=by rw [h2,hc2] <;> rfl
      rw [e2]; exact hc2
    have e0:=env0C (cs:=cs) I3 cs_of hfn
    have up:=base_withC (cs:=cs) I3
    have LF:LamF (withC X.base s3.heap cs) f c' (PySem.W.kla_obj "<lambda>" (X.env.qual ++ "<lambda>") D.params D.body D.scope (cloFrom X.env.cells D.scope.names []) pm c' ctv) co vm D :=
     ⟨cloFrom X.env.cells D.scope.names [],pm,ctv,um,by rw [hq],⟨fun y z cc a b => I3.ok.inj y z cc (NdefX.clo_cm hfree a) (NdefX.clo_cm hfree b),fun y hy => mem_lookup (cloFrom_has (cells:=X.env.cells) (acc:=[]) (PySem.mem_of_lookup hy)),fun y cc hcc => by
      obtain ⟨v,o,ho,hd⟩:=I3.cell y cc (NdefX.clo_cm hfree hcc)
      exact ⟨v,o,withC_get ho (.inl (mem_cs y cc hcc)),hd⟩,fun cc hcc => by
      obtain ⟨o,ho,hd⟩:=hcapd cc hcc
      exact ⟨o,withC_get ho (.inl (mem_cs _ cc hcc)),hd⟩⟩,rum,by rw [← hq]; exact M.codq⟩
    have GG:=G (withC X.base s3.heap cs) f c' _ co vm up LF
    obtain ⟨np,hpl,hw⟩:=Classical.choose_spec hex
    refine wpAny_call (codeAny_mono (GG.run X.A X.stack s3 H3 ⟨[u1,u2,.ref f],[]⟩ [u1,u2,.ref f] [v1,v2,.ref f] Q (WE W σ) hr e0 (by simpa using hb s3 [u1,u2,.ref f] I3.kIn (by rw [hps]; rfl)) (.cons rv1 (.cons rv2 (.cons rfl .nil))) ?_) fun r' s' hq' => ?_)
    ·refine ⟨⟨M.fn,M.cod⟩,ι2,S2,[p1,p2,.fn f vm m],r3,⟨_,_,rfl,(q1.up E2).up E3,_,_,rfl,q2.up E3,_,_,rfl,⟨rfl,hvm⟩,rfl⟩,rfl,wp_mono (hw f vm) (fun v' S4 hv4 => ?_) fun _ _ _ z => z.elim⟩
     obtain ⟨rfl,kp⟩:=hv4
     intro ι' H' xv e' rr rv'
     exact pk2 ι2 H' xv (E3.trans e'.trim) (r3.trim e' rr kp) (Pl.any np _ _ hpl rv')
    ·cases r' with
     | error e => exact passAt tk σ pins H3 s3 e s' I3 hq'
     | ok fl =>
      cases fl with
      | ret u => exact I3.after hq'
      | next => exact False.elim hq'
      | brk => exact False.elim hq'
      | cont => exact False.elim hq'
   ·exact pk2.elim
  ·exact pk2.elim
end
end PL
namespace PL
open PySem PySem.Spec PyProof.Rows L2
def LawMainT (nm q:Str) (n:Nat) (F:FM):Prop:=∀ ns:List Int,ns.length ≤ n→wp (F [.fls (ns.map PV.int)] [.tab nm q]) (fun v _ => v = .bl true) (fun _ _ _ => False)
def spLawT (K:PySem.W.Frag) (P n:Nat):Sp:=fun vs H Q _ => ∃ (a:Addr) (ns:List Int),vs = [.ref a]∧ns.length ≤ n∧H P = some (.tbl #[])∧SqL K H a (ns.map V.int)∧∀ H',Q (.bl true) H'
section
variable {P:Program} {w:World} {K:PySem.W.Frag} {mg:Str→Option Value} {base:Heap}
theorem spT_spD {nm q:Str} {n:Nat} {F:FM} {PP:Addr} (h:LawMainT nm q n F) (hK:TabK K mg nm PP) {a:Addr} {ns:List Int} {H:Hp} {Q:VK} {E:XK} (hn:ns.length ≤ n) (hP:H PP = some (.tbl #[])) (hS:FzL K H a (ns.map V.int)) (hQ:∀ H',Q (.bl true) H'):spD P w K mg 1 F [.ref a] H Q E:=by
 refine ⟨[PP],[.tab nm q],[.fls (ns.map PV.int)],⟨rfl,by simp,fun l a o h1 h2 => ?_⟩,⟨_,_,rfl,⟨a,_,rfl,hS,RpL.ints ns⟩,rfl⟩,rfl,wp_mono (h ns hn) (fun v S' e => ?_) (fun _ _ _ z => z.elim)⟩
 ·cases l with
  | zero =>
   cases h1
   cases h2
   exact ⟨⟨#[],hP,True.intro,fun pos cv hc => by
    have z:codeAmong pos [] = some cv:=hc
    simp [codeAmong] at z⟩,hK⟩
  | succ l => simp at h1
 ·subst e
  intro ι' H' x _ _ r
  have r':x = .bl true:=r
  subst r'
  exact hQ H'
theorem fn_lawT {k n:Nat} {f PP:Addr} {fd:FuncData} {ps:List Str} {F:FM} {nm q:Str} (h:LawMainT nm q n F) (hK:TabK K mg nm PP) (G:FnOk P w K mg base (L2.CX P w) k f fd ps (spD P w K mg 1 F)) (hl:ps.length = 1):FnOk P w K mg base (L2.CX P w) k f fd ps (spLawT K PP n):=by
 refine ⟨fun vs H Q E ⟨a,ns,e,_⟩ => by rw [e,hl]; rfl,fun A outer s H args us vs Q E hr e0 hb hv hs => ?_⟩
 obtain ⟨a,ns,rfl,hn,hP,hS,hQ⟩:=hs
 rcases hS with (hS | hS) | hS
 ·-- a list of the heap: frozen for the call
  have ok:=e0.hok a _ hS
  have ok2:=ok
  obtain ⟨hsz,its,m,rv,ho⟩:=ok
  have mu:Mut (H a):=by rw [hS]; trivial
  have hok2:HOk P w (upd H a (.frz { cls:=.type "list",data:=.seq its.toArray m } (.lst (ns.map V.int)))) s.heap:=by
   refine e0.hok.write mu (.inl rfl) (fun _ _ _ q => q) (Exists.intro _ ho) ⟨ho,hsz,its,m,rv,ho⟩
  have ne:∀ b o,H b = some o→(∀ xs,o ≠ .lst xs)→upd H a (.frz { cls:=.type "list",data:=.seq its.toArray m } (.lst (ns.map V.int))) b = some o:=fun b o e z => by
   refine (upd_ne fun y => ?_).trans e
   rw [y,hS] at e
   cases e
   exact z _ rfl
  have iff0:∀ b,upd H a (.frz { cls:=.type "list",data:=.seq its.toArray m } (.lst (ns.map V.int))) b = none↔H b = none:=fun b => by
   by_cases hb:b = a
   ·subst hb; rw [upd_same,hS]; simp
   ·rw [upd_ne hb]
  have e1:Env0 P w K mg base A outer s (upd H a (.frz { cls:=.type "list",data:=.seq its.toArray m } (.lst (ns.map V.int)))) :=
   ⟨e0.frames,e0.mod,fun b o e => ⟨(e0.bs b o e).1,(iff0 b).mpr (e0.bs b o e).2⟩,e0.bsz,e0.funs,fun b hb => (iff0 b).mpr (e0.frf b hb),hok2,e0.bare⟩
  have run:=G.run A outer s _ args us [.ref a] Q (fun _ _ _ => False) hr e1 hb hv (spT_spD (PP:=PP) h hK hn (ne _ _ hP fun xs z => by cases z) (.inl ⟨_,upd_same⟩) hQ)
  refine codeAny_mono run fun r s' hq => ?_
  cases r with
  | error e =>
   obtain ⟨_,_,_,_,_,_,_,_,_,_,_,_,z⟩:=(show L2.CX P w outer _ s (fun _ _ _ => False) e s' from hq)
   exact z.elim
  | ok fl =>
   cases fl with
   | next => exact False.elim hq
   | brk => exact False.elim hq
   | cont => exact False.elim hq
   | ret u =>
    obtain ⟨v,H',os,bare,un,hok',r',q'⟩:=hq
    exact ⟨v,H',os,bare,⟨fun b o x1 x2 => un.keep b o x1 ((iff0 b).mpr x2),fun b o x1 x2 => un.slot b o x1 ((iff0 b).mpr x2),fun b o x1 x2 => un.free b o x1 ((iff0 b).mpr x2),un.there,
     fun b xs x => un.tups b xs (ne _ _ x fun _ z => by cases z),fun b o u x => un.frzs b o u (ne _ _ x fun _ z => by cases z),fun b ps x => un.tbls b ps (ne _ _ x fun _ z => by cases z)⟩,hok',r',q'⟩
 ·obtain ⟨o,hS⟩:=hS
  exact G.run A outer s H args us [.ref a] Q E hr e0 hb hv (spT_spD (PP:=PP) h hK hn hP (.inl ⟨o,hS⟩) hQ)
 ·exact G.run A outer s H args us [.ref a] Q E hr e0 hb hv (spT_spD (PP:=PP) h hK hn hP (.inr hS) hQ)
end
def lamRet (q p m:Str):Stmt→LamD
 | .Return (some (.Call _ [_,_,.Lambda ps b sc _] _ _)) _ => ⟨q,p,m,sc,ps,b⟩
 | _ => ⟨q,p,m,default,default,default⟩
def ifFst:Stmt→Stmt
 | .If _ (s :: _) _ _ => s
 | s => s
theorem lamFr_by {sc scope:Scope} (h:(scope.names.all fun y => !decide (y.2 = .free) || decide (sc.names.lookup y.1 = some .cell)) = true):∀ y ∈ scope.names,y.2 = .free→sc.names.lookup y.1 = some .cell:=fun y hy e => by
 have z:=List.all_eq_true.mp h y hy
 simp only [Bool.or_eq_true,Bool.not_eq_true',decide_eq_false_iff_not,decide_eq_true_eq] at z
 exact z.resolve_left fun n => n e
end PL
set_option maxHeartbeats 4000000
namespace PLz
open PySem PySem.Spec PyProof.Rows L2
theorem tuple_mul1 (l:Addr) (items:Array Value) (n:Nat) (dd:Option Addr) (sl:Array (Option Value)) (x:Int) (u:Tok) (c0:(decide (x < -(2 ^ 63)) || decide (x ≥ 2 ^ 63)) = false) (c1:(items.isEmpty || x == 1) = true) :
  Meets (Builtin.«tuple.__mul__» ⟨[.ref l,.int x u],[]⟩) (fun _ R s => s.heap.get? l = some { cls:=.type "tuple",dict:=dd,data:=.seq items n,slots:=sl }∧R (.ok (.ret (Value.ref l))) s) :=
 .of_wp fun prog w A R s h => by
  obtain ⟨hp,g,d,tk,os⟩:=s
  obtain ⟨hl,h⟩:=h
  have f1:=AutoSeq1.idx_int
  wp_walk using wpAny_loadPart' hl
  repeat (first
   | (refine wpAny_ite_false (decide_eq_false (by rw [c0]; exact Bool.false_ne_true)) ?_; wp_walk using wpAny_loadPart' hl)
   | (refine wpAny_ite_true (decide_eq_true c1) ?_; wp_walk using wpAny_loadPart' hl))
  exact ⟨_,rfl,h⟩
theorem tuple_mul0 (l:Addr) (items:Array Value) (n:Nat) (dd:Option Addr) (sl:Array (Option Value)) (x:Int) (u:Tok) (c0:(decide (x < -(2 ^ 63)) || decide (x ≥ 2 ^ 63)) = false) (c1:(items.isEmpty || x == 1) = false) (c2:(decide (x ≤ 0) || items.isEmpty) = true) :
  Meets (Builtin.«tuple.__mul__» ⟨[.ref l,.int x u],[]⟩) (fun _ R s => s.heap.get? l = some { cls:=.type "tuple",dict:=dd,data:=.seq items n,slots:=sl } ∧
   R (.ok (.ret (Value.ref s.heap.objs.size))) { s with heap:=s.heap.push { cls:=Value.type "tuple",data:=Data.seq #[] },toks:=s.toks }) :=
 .of_wp fun prog w A R s h => by
  obtain ⟨hp,g,d,tk,os⟩:=s
  obtain ⟨hl,h⟩:=h
  have f1:=AutoSeq1.idx_int
  wp_walk using wpAny_loadPart' hl
  repeat (first
   | (refine wpAny_ite_false (decide_eq_false (by rw [c0]; exact Bool.false_ne_true)) ?_; wp_walk using wpAny_loadPart' hl)
   | (refine wpAny_ite_false (decide_eq_false (by rw [c1]; exact Bool.false_ne_true)) ?_; wp_walk using wpAny_loadPart' hl)
   | (refine wpAny_ite_true (decide_eq_true c2) ?_; wp_walk using wpAny_loadPart' hl))
  exact ⟨_,rfl,h⟩
def rRepZ (K:PySem.W.Frag):R2:=fun x y H Q => ∃ l k xs,x = .ref l∧y = .int k∧SqT K H l xs∧0 ≤ k∧k ≤ 1000∧xs.length ≤ 1000∧((xs = [] ∨ k = 1)→Q (.ref l) H)∧(¬ (xs = [] ∨ k = 1)→∀ p,H p = none→NewT H p (List.replicate k.toNat xs).flatten (Q (.ref p)))
theorem op_repZ {X:Cx}:OpR X (binaryOp .Mult) (rRepZ X.K):=by
 intro pins s σ H x y v u Q I rx ry h
 obtain ⟨l,k,xs,rfl,rfl,hT,h1,h2,hz,q0,q1⟩:=h
 cases rx
 obtain ⟨t,rfl⟩:=ry
 obtain ⟨its,r,⟨⟨cls,dd,data,sl⟩,ho,hc,n,hd⟩,hs⟩:=I.tuple hT
 simp only at hc hd
 subst hc hd
 have hle:its.length = xs.length:=r.length.symm
 have hsz0:its.toArray.size = xs.length:=by rw [List.size_toArray,hle]
 have c0:(decide (k < -(2 ^ 63)) || decide (k ≥ 2 ^ 63)) = false:=by
  rw [decide_eq_false (by omega),decide_eq_false (by omega)] <;> rfl
 have he:its.toArray.isEmpty = true↔xs = []:=by
  cases its with
  | nil => cases xs with
   | nil => simp
   | cons a b => simp at hle
  | cons a b => cases xs with
   | nil => simp at hle
   | cons c d => simp
 by_cases c:xs = [] ∨ k = 1
 ·have c1:(its.toArray.isEmpty || k == 1) = true:=by
   rcases c with c | c
   ·rw [he.mpr c]; rfl
   ·rw [c]; simp
  refine wpAny_binaryOp_repeat_ref (T := "tuple") (U := "int") (by decide) ⟨_,ho,rfl⟩ (fun s' => typeIs_int s' k t) noFill_tuple_mul F.fills_int_mul F.slot_int_rmul repeat_tuple F.slot_int_index.lookup
   (call_meets F.slot_int_rmul (typeIs_int s k t) F.entry_int_rmul (F.args_int_rmul_2 _ _) (int_rmul_tuple k t l its.toArray n dd sl)
    ⟨ho,rfl,⟨_,ho,rfl⟩,call_meets F.slot_tuple_mul ⟨_,ho,rfl⟩ F.entry_tuple_mul (F.args_tuple_mul_2 _ _) (tuple_mul1 l its.toArray n dd sl k t c0 c1) ⟨ho,?_⟩⟩)
  exact ⟨.ref l,H,I,rfl,q0 c⟩
 have q1:=q1 c
 rw [not_or] at c
 have hi:its.toArray.isEmpty = false:=by
  cases z:its.toArray.isEmpty with
  | false => rfl
  | true => exact absurd (he.mp z) c.1
 have c1:(its.toArray.isEmpty || k == 1) = false:=by
  rw [hi,Bool.false_or]
  exact beq_eq_false_iff_ne.mpr c.2
 by_cases k0:k ≤ 0
 ·have c2:(decide (k ≤ 0) || its.toArray.isEmpty) = true:=by rw [decide_eq_true k0]; rfl
  have hk:k.toNat = 0:=by omega
  rw [hk] at q1
  refine wpAny_binaryOp_repeat_ref (T := "tuple") (U := "int") (by decide) ⟨_,ho,rfl⟩ (fun s' => typeIs_int s' k t) noFill_tuple_mul F.fills_int_mul F.slot_int_rmul repeat_tuple F.slot_int_index.lookup
   (call_meets F.slot_int_rmul (typeIs_int s k t) F.entry_int_rmul (F.args_int_rmul_2 _ _) (int_rmul_tuple k t l its.toArray n dd sl)
    ⟨ho,rfl,⟨_,ho,rfl⟩,call_meets F.slot_tuple_mul ⟨_,ho,rfl⟩ F.entry_tuple_mul (F.args_tuple_mul_2 _ _) (tuple_mul0 l its.toArray n dd sl k t c0 c1 c2) ⟨ho,?_⟩⟩)
  refine ⟨.ref s.heap.objs.size,_,I.laid (t':=s.toks) (o:=.frz { cls:=.type "tuple",data:=.seq #[] } (.tup [])) (fun b ob q => Heap.get?_push_of_some _ q) (Nat.le_refl _) ?_,rfl,q1 _ (I.hok.fresh (Nat.le_refl _)) _ rfl⟩
  exact ⟨Heap.get?_push_size _ rfl,Nat.zero_le _,[],.nil,IsTup.new _ _⟩
 ·have hm:((its.toArray.size:Nat):Int) * k ≤ 1000000:=by
   rw [hsz0]
   have a1:((xs.length:Nat):Int) * k ≤ 1000 * k:=Int.mul_le_mul_of_nonneg_right (by omega) (by omega)
   omega
  have flen:(List.replicate k.toNat its).flatten.length ≤ sizeLine:=by
   rw [PyProof.Rows.lm_len_rep_flat,hle,sizeLine_eq]
   have a1:k.toNat * xs.length ≤ 1000 * 1000:=Nat.mul_le_mul (by omega) hz
   omega
  have c2:(decide (k ≤ 0) || its.toArray.isEmpty) = false:=by
   rw [hi,Bool.or_false]
   exact decide_eq_false k0
  have c4:Builtin.Tuple.tupleTooMany (((its.toArray.size:Nat):Int) * k) = false:=by
   unfold Builtin.Tuple.tupleTooMany
   rw [sizeLine_eq]
   exact decide_eq_false (by omega)
  refine wpAny_binaryOp_repeat_ref (T := "tuple") (U := "int") (by decide) ⟨_,ho,rfl⟩ (fun s' => typeIs_int s' k t) noFill_tuple_mul F.fills_int_mul F.slot_int_rmul repeat_tuple F.slot_int_index.lookup
   (call_meets F.slot_int_rmul (typeIs_int s k t) F.entry_int_rmul (F.args_int_rmul_2 _ _) (int_rmul_tuple k t l its.toArray n dd sl)
    ⟨ho,rfl,⟨_,ho,rfl⟩,call_meets F.slot_tuple_mul ⟨_,ho,rfl⟩ F.entry_tuple_mul (F.args_tuple_mul_2 _ _) (tuple_mulW l its.toArray n dd sl k t c0 c1 c2 (by omega) c4 (by rw [size_rep,List.size_toArray]; exact flen)) ⟨ho,?_⟩⟩)
  rw [size_rep]
  refine ⟨.ref s.heap.objs.size,_,I.laid (t':=s.toks) (o:=.frz { cls:=.type "tuple",data:=.seq (List.replicate k.toNat its).flatten.toArray } (.tup (List.replicate k.toNat xs).flatten)) (fun b ob q => Heap.get?_push_of_some _ q) (Nat.le_refl _) ?_,rfl,q1 _ (I.hok.fresh (Nat.le_refl _)) _ rfl⟩
  exact ⟨Heap.get?_push_size _ rfl,by rw [PyProof.Rows.lm_len_rep_flat,sizeLine_eq]; have a1:k.toNat * xs.length ≤ 1000 * 1000:=Nat.mul_le_mul (by omega) hz; omega,_,r.rep k.toNat,IsTup.new _ _⟩
end PLz
namespace PL
open PySem PySem.Spec PyProof.Rows L2
def tmulP:Op2:=fun p q S => match p,q with
 | .tup xs,.int k => if 0 ≤ k∧k ≤ 1000∧xs.length ≤ 1000 then some (.tup (List.replicate k.toNat xs).flatten,S) else none
 | _,_ => none
theorem og_tmul {X:Cx}:OpR X (binaryOp .Mult) (gOp X tmulP):=by
 intro pins s σ H x y v u Q I rx ry ⟨ι,S,p,q,z,S',rs,rp,rq,hf,k⟩
 unfold tmulP at hf
 split at hf
 ·rename_i a n
  split at hf
  ·rename_i hc
   cases hf
   obtain ⟨aa,vs,rfl,h1,h2⟩:=rp
   cases (show y = _ from rq)
   refine PLz.op_repZ pins s σ H _ _ v u Q I rx ry ⟨aa,n,vs,rfl,rfl,h1.seq,hc.1,hc.2.1,by rw [← h2.length]; exact hc.2.2,fun e => ?_,fun _ p hp o ho => ?_⟩
   ·have:(List.replicate n.toNat a).flatten = a:=by
     rcases e with e | e
     ·rw [h2.nil_iff.mp e]; simp
     ·rw [e]; simp
    rw [this] at k
    exact k ι H _ .refl rs ⟨aa,vs,rfl,h1,h2⟩
   ·obtain ⟨E,r2⟩:=rs.tup (ho:=.frz o (.tup (List.replicate n.toNat vs).flatten)) hp
    exact k _ _ _ E r2 ⟨p,_,rfl,.inl ⟨o,upd_same,ho⟩,(h2.rep n.toNat).up E⟩
  ·cases hf
 ·cases hf
@[simp] theorem tmulP_tup (xs:List PV) (k:Int) (S:Sto):tmulP (.tup xs) (.int k) S = if 0 ≤ k∧k ≤ 1000∧xs.length ≤ 1000 then some (.tup (List.replicate k.toNat xs).flatten,S) else none:=rfl
end PL
namespace K38
open PySem PySem.Spec PyProof.Rows L2 PL
def topS (i:Nat):Stmt:=PySem.Challenge.pw_codeasks_k38_programs_edited.main.body.getD i (.Pass ⟨0,0,0,0⟩)
theorem sc_q29:FnScope ["text", "letter"] ["text"] (defScope (topS 8)):=⟨rfl,rfl,rfl,by decide +kernel,rfl,by decide +kernel,by decide +kernel⟩
theorem sc_q26:FnScope ["rows", "found", "row"] ["rows"] (defScope (topS 9)):=⟨rfl,rfl,rfl,by decide +kernel,rfl,by decide +kernel,by decide +kernel⟩
theorem sc_q27:FnScope ["rows"] ["rows"] (defScope (topS 10)):=⟨rfl,rfl,rfl,by decide +kernel,rfl,by decide +kernel,by decide +kernel⟩
theorem sc_q6:FnScope ["row", "value"] ["row"] (defScope (topS 11)):=⟨rfl,rfl,rfl,by decide +kernel,rfl,by decide +kernel,by decide +kernel⟩
theorem sc_q28:FnScope ["row", "word", "definition", "names"] ["row"] (defScope (topS 12)):=⟨rfl,rfl,rfl,by decide +kernel,rfl,by decide +kernel,by decide +kernel⟩
theorem sc_q24:FnScope ["row"] ["row"] (defScope (topS 13)):=⟨rfl,rfl,rfl,by decide +kernel,rfl,by decide +kernel,by decide +kernel⟩
theorem sc_q23:FnScope ["definition", "others", "every", "names", "calls", "name", "parameters", "rows", "row", "one", "called", "given"] ["definition", "others"] (defScope (topS 14)):=⟨rfl,rfl,rfl,by decide +kernel,rfl,by decide +kernel,by decide +kernel⟩
theorem sc_q4:FnScope ["self", "definitions", "others", "met", "definition", "name", "parameters", "rows"] ["self", "definitions"] (defScope (inClass (topS 15) 0)):=⟨rfl,rfl,rfl,by decide +kernel,rfl,by decide +kernel,by decide +kernel⟩
theorem sc_q0:FnScope ["self"] ["self"] (defScope (inClass (topS 15) 1)):=⟨rfl,rfl,rfl,by decide +kernel,rfl,by decide +kernel,by decide +kernel⟩
theorem sc_q16:FnScope ["self", "other"] ["self", "other"] (defScope (inClass (topS 15) 5)):=⟨rfl,rfl,rfl,by decide +kernel,rfl,by decide +kernel,by decide +kernel⟩
theorem sc_changed:FnScope ["rows", "number", "change", "at", "row", "size", "many", "word", "name", "ones", "others", "inner"] ["rows", "number", "change"] (defScope (topS 17)):=⟨rfl,rfl,rfl,by decide +kernel,rfl,by decide +kernel,by decide +kernel⟩
theorem sc_q7:FnScope ["rows", "edit", "many", "word", "definition", "number", "more"] ["rows", "edit"] (defScope (topS 18)):=⟨rfl,rfl,rfl,by decide +kernel,rfl,by decide +kernel,by decide +kernel⟩
theorem sc_q30:FnScope ["program", "edit", "found", "names", "at", "word", "name", "made", "more", "definition", "one"] ["program", "edit"] (defScope (topS 19)):=⟨rfl,rfl,rfl,by decide +kernel,rfl,by decide +kernel,by decide +kernel⟩
theorem sc_q17:FnScope ["_law_script", "_law_fold", "_law_great_here", "_law_cell", "_law_much"] ["_law_script"] (defScope (topS 21)):=⟨rfl,rfl,rfl,by decide +kernel,rfl,by decide +kernel,by decide +kernel⟩
theorem sc_q20:FnScope ["_law_tray_here", "_law_many", "_law_mixed", "_law_found"] ["_law_tray_here", "_law_many"] (defScope (topS 22)):=⟨rfl,rfl,rfl,by decide +kernel,rfl,by decide +kernel,by decide +kernel⟩
theorem sc_q15:FnScope ["_law_tray_here", "_law_found", "_law_k"] ["_law_tray_here"] (defScope (topS 23)):=⟨rfl,rfl,rfl,by decide +kernel,rfl,by decide +kernel,by decide +kernel⟩
theorem sc_q11:FnScope ["_law_found", "_law_due", "_law_k"] ["_law_found", "_law_due"] (defScope (topS 24)):=⟨rfl,rfl,rfl,by decide +kernel,rfl,by decide +kernel,by decide +kernel⟩
theorem sc_q22:FnScope ["_law_tray_here", "_law_used", "_law_letters", "_law_lot", "_law_letter", "_law_name_here", "_law_some", "_law_bars", "_law_words", "_law_old", "_law_at", "_law_k", "_law_one"] ["_law_tray_here", "_law_used"] (defScope (topS 25)):=⟨rfl,rfl,rfl,by decide +kernel,rfl,by decide +kernel,by decide +kernel⟩
theorem sc_q8:FnScope ["_law_tray_here", "_law_many", "_law_used", "_law_found", "_law_k"] ["_law_tray_here", "_law_many", "_law_used"] (defScope (topS 26)):=⟨rfl,rfl,rfl,by decide +kernel,rfl,by decide +kernel,by decide +kernel⟩
theorem sc_q10:FnScope ["_law_tray_here"] ["_law_tray_here"] (defScope (topS 27)):=⟨rfl,rfl,rfl,by decide +kernel,rfl,by decide +kernel,by decide +kernel⟩
theorem sc_q13:FnScope ["_law_tray_here", "_law_own", "_law_heads", "_law_lot", "_law_some", "_law_value_here", "_law_k", "_law_name_here", "_law_parameters"] ["_law_tray_here", "_law_own", "_law_heads"] (defScope (topS 28)):=⟨rfl,rfl,rfl,by decide +kernel,rfl,by decide +kernel,by decide +kernel⟩
theorem sc_q25:FnScope ["_law_tray_here", "_law_own", "_law_heads", "_law_left", "_law_deep", "_law_lot", "_law_name_here", "_law_ones"] ["_law_tray_here", "_law_own", "_law_heads", "_law_left", "_law_deep"] (defScope (topS 29)):=⟨rfl,rfl,rfl,by decide +kernel,rfl,by decide +kernel,by decide +kernel⟩
theorem sc_q18:FnScope ["_law_tray_here", "_law_own", "_law_heads", "_law_left", "_law_deep", "_law_found", "_law_k"] ["_law_tray_here", "_law_own", "_law_heads", "_law_left", "_law_deep"] (defScope (topS 30)):=⟨rfl,rfl,rfl,by decide +kernel,rfl,by decide +kernel,by decide +kernel⟩
theorem sc_q3:FnScope ["_law_tray_here", "_law_wide", "_law_heads", "_law_name_here", "_law_few", "_law_found", "_law_parameters", "_law_own", "_law_left", "_law_rows_here"] ["_law_tray_here", "_law_wide"] (defScope (topS 31)):=⟨rfl,rfl,rfl,by decide +kernel,rfl,by decide +kernel,by decide +kernel⟩
theorem sc_q19:FnScope ["_law_rows_here", "_law_found", "_law_left", "_law_row_here"] ["_law_rows_here"] (defScope (topS 32)):=⟨rfl,rfl,rfl,by decide +kernel,rfl,by decide +kernel,by decide +kernel⟩
theorem sc_q9:FnScope ["_law_rows_here", "_law_row_here"] ["_law_rows_here"] (defScope (topS 33)):=⟨rfl,rfl,rfl,by decide +kernel,rfl,by decide +kernel,by decide +kernel⟩
theorem sc_q14:FnScope ["_law_lists", "_law_found", "_law_one", "_law_row_here"] ["_law_lists"] (defScope (topS 34)):=⟨rfl,rfl,rfl,by decide +kernel,rfl,by decide +kernel,by decide +kernel⟩
theorem sc_q12:FnScope ["_law_lists", "_law_deep", "_law_found", "_law_at", "_law_inner"] ["_law_lists", "_law_deep"] (defScope (topS 35)):=⟨rfl,rfl,rfl,by decide +kernel,rfl,by decide +kernel,by decide +kernel⟩
theorem sc_q1:FnScope ["_law_rows_here", "_law_deed", "_law_lists", "_law_spots_here", "_law_number", "_law_inside", "_law_at", "_law_deep"] ["_law_rows_here", "_law_deed"] (defScope (topS 36)):=⟨rfl,rfl,rfl,by decide +kernel,rfl,by decide +kernel,by decide +kernel⟩
theorem sc_q5:FnScope ["_law_some", "_law_deed", "_law_names_here", "_law_at", "_law_rows_here", "_law_word", "_law_name_here", "_law_made", "_law_one"] ["_law_some", "_law_deed"] (defScope (topS 37)):=⟨rfl,rfl,rfl,by decide +kernel,rfl,by decide +kernel,by decide +kernel⟩
theorem sc_q2:FnScope ["_law_tray_here", "_law_own", "_law_heads", "_law_deep", "_law_row_here", "_law_parts"] ["_law_tray_here", "_law_own", "_law_heads", "_law_deep"] (defScope (topS 38)):=⟨rfl,rfl,rfl,by decide +kernel,rfl,by decide +kernel,by decide +kernel⟩
theorem sc_q21:FnScope ["_law_tray_here", "_law_some", "_law_room", "_law_lot", "_law_heads", "_law_every", "_law_one", "_law_full", "_law_own", "_law_spots_here", "_law_called", "_law_number", "_law_name_here", "_law_parameters", "_law_rows_here", "_law_fresh", "_law_more", "_law_row_here"] ["_law_tray_here", "_law_some", "_law_room"] (defScope (topS 39)):=⟨rfl,rfl,rfl,by decide +kernel,rfl,by decide +kernel,by decide +kernel⟩
theorem sc_law:FnScope ["_law_script", "_law_tray_here", "_law_k", "_law_some", "_law_made", "_law_j", "_law_deed", "_law_due", "_law_found"] ["_law_script"] (defScope (topS 40)):=⟨rfl,rfl,rfl,by decide +kernel,rfl,by decide +kernel,by decide +kernel⟩
theorem sc_einit:FnScope ["self", "what"] ["self", "what"] (defScope (inClass (topS 1) 0)):=⟨rfl,rfl,rfl,by decide +kernel,rfl,by decide +kernel,by decide +kernel⟩
theorem bo_einit:defBody (inClass (topS 1) 0) = [.Assign [.Attribute (.Name "self" ⟨5,8,5,12⟩) "what" ⟨5,8,5,17⟩] (.Name "what" ⟨5,20,5,24⟩) ⟨5,8,5,24⟩]:=rfl
theorem kbrel_edited_0_edit_program {vs:List V} {us:List Value} {zs:List V} {ws:List Value} (h:Vals vs us) (h':Vals zs ws):Vals ((fun (us ws:List V) => match us,ws with | [],[x0,x1] => [x1,x0] | _,_ => []) vs zs) ((fun (us ws:List Value) => match us,ws with | [],[x0,x1] => [x1,x0] | _,_ => []) us ws):=by
 cases h with
 | cons _ _ => exact .nil
 | nil =>
  cases h' with
  | nil => exact .nil
  | cons hx0 tx0 =>
   cases tx0 with
   | nil => exact .nil
   | cons hx1 tx1 =>
    cases tx1 with
    | cons _ _ => exact .nil
    | nil =>
     exact (.cons hx1 (.cons hx0 .nil))
theorem kbgp_edited_0_edit_program {K:PySem.W.Frag}:∀ (ι : List Addr) (H:Hp) (qs:List PV) (zs:List V),qs.length = 2→RpL K ι H qs zs→RpL K ι H ((fun (qs:List PV) => match qs with | [x0,x1] => [x1,x0] | _ => []) qs) ((fun (us ws:List V) => match us,ws with | [],[x0,x1] => [x1,x0] | _,_ => []) [] zs)∧((fun (qs:List PV) => match qs with | [x0,x1] => [x1,x0] | _ => []) qs).length = 2:=by
 intro ι H qs zs hl h
 match qs,hl with
 | [x0,x1],_ =>
  obtain ⟨_,_,rfl,hx0,h⟩:=h
  obtain ⟨_,_,rfl,hx1,h⟩:=h
  cases (show _ = [] from h)
  exact ⟨⟨_,_,rfl,hx1,⟨_,_,rfl,hx0,rfl⟩⟩,rfl⟩
set_option genInjectivity false in
set_option genSizeOf false in
set_option genSizeOfSpec false in
structure Tx (K:PySem.W.Frag) (mg:Str→Option Value) (w:World) where
 t_q29:DG K mg "is_name" (topS 8) ["text"]
 t_q26:DG K mg "each_row" (topS 9) ["rows"]
 t_q27:DG K mg "size_of" (topS 10) ["rows"]
 t_q6:DG K mg "names_asked" (topS 11) ["row"]
 t_q28:DG K mg "call_of" (topS 12) ["row"]
 t_q24:DG K mg "names_in" (topS 13) ["row"]
 t_q23:DG K mg "is_sound" (topS 14) ["definition", "others"]
 t_q4:DF K "__init__" "Program.__init__" (inClass (topS 15) 0) ["self", "definitions"]
 t_q0:DF K "definitions" "Program.definitions" (inClass (topS 15) 1) ["self"]
 t_q16:DF K "__eq__" "Program.__eq__" (inClass (topS 15) 5) ["self", "other"]
 t_changed:DG K mg "changed" (topS 17) ["rows", "number", "change"]
 t_q7:DG K mg "rows_edited" (topS 18) ["rows", "edit"]
 t_q30:DG K mg "edited" (topS 19) ["program", "edit"]
 t_q17:DG K mg "_law_tray" (topS 21) ["_law_script"]
 t_q20:DG K mg "_law_draw" (topS 22) ["_law_tray_here", "_law_many"]
 t_q15:DG K mg "_law_great" (topS 23) ["_law_tray_here"]
 t_q11:DG K mg "_law_alike" (topS 24) ["_law_found", "_law_due"]
 t_q22:DG K mg "_law_name" (topS 25) ["_law_tray_here", "_law_used"]
 t_q8:DG K mg "_law_names" (topS 26) ["_law_tray_here", "_law_many", "_law_used"]
 t_q10:DG K mg "_law_whole" (topS 27) ["_law_tray_here"]
 t_q13:DG K mg "_law_value" (topS 28) ["_law_tray_here", "_law_own", "_law_heads"]
 t_q25:DG K mg "_law_row" (topS 29) ["_law_tray_here", "_law_own", "_law_heads", "_law_left", "_law_deep"]
 t_q18:DG K mg "_law_rows" (topS 30) ["_law_tray_here", "_law_own", "_law_heads", "_law_left", "_law_deep"]
 t_q3:DG K mg "_law_program" (topS 31) ["_law_tray_here", "_law_wide"]
 t_q19:DG K mg "_law_each" (topS 32) ["_law_rows_here"]
 t_q9:DG K mg "_law_loose" (topS 33) ["_law_rows_here"]
 t_q14:DG K mg "_law_bound" (topS 34) ["_law_lists"]
 t_q12:DG K mg "_law_spots" (topS 35) ["_law_lists", "_law_deep"]
 t_q1:DG K mg "_law_rows_edited" (topS 36) ["_law_rows_here", "_law_deed"]
 t_q5:DG K mg "_law_edited" (topS 37) ["_law_some", "_law_deed"]
 t_q2:DG K mg "_law_new_row" (topS 38) ["_law_tray_here", "_law_own", "_law_heads", "_law_deep"]
 t_q21:DG K mg "_law_edit" (topS 39) ["_law_tray_here", "_law_some", "_law_room"]
 t_law:DG K mg "law" (topS 40) ["_law_script"]
 a_Program:Addr
 g_Program:mg "Program" = some (.ref a_Program)
 cl_Program:Cls K a_Program
 mk_Program:Mk K a_Program t_q4.a
 m_q0:Meth K a_Program "definitions" t_q0.a
 m_q16:Meth K a_Program "__eq__" t_q16.a
 oc_Program:OwnC K a_Program t_q16.a
 na_definitions_kept:NoAttr K a_Program "definitions_kept"
 k_LETTERS:Tok
 c_LETTERS:mg "LETTERS" = some (.str "abcdefghijklmnopqrstuvwxyz" k_LETTERS)
 k_MOST_LETTERS:Tok
 c_MOST_LETTERS:mg "MOST_LETTERS" = some (.int 8 k_MOST_LETTERS)
 k_MAIN:Tok
 c_MAIN:mg "MAIN" = some (.str "main" k_MAIN)
 f_einit:Addr
 d_einit:FuncData
 t_einit:Fun K "__init__" "AskError.__init__" (inClass (topS 1) 0) f_einit d_einit
 b_einit:Binds K d_einit ["self", "what"] []
 i_init:PySem.W.typeIn K (.ref f_einit) = some (.type "function")
 p_einit:Pos × Pos × Pos × Pos
 sc_einit:FnScope ["self", "what"] ["self", "what"] (defScope (inClass (topS 1) 0))
 bo_einit:defBody (inClass (topS 1) 0) = [.Assign [.Attribute (.Name "self" p_einit.1) "what" p_einit.2.1] (.Name "what" p_einit.2.2.1) p_einit.2.2.2]
 E_NoProgram:Addr
 x_NoProgram:ExT K mg "NoProgram" E_NoProgram f_einit
 E_NoPlace:Addr
 x_NoPlace:ExT K mg "NoPlace" E_NoPlace f_einit
 E_AskError:Addr
 x_AskError:ExT K mg "AskError" E_AskError f_einit
 n_all:mg "all" = none
 n_bool:mg "bool" = none
 n_enumerate:mg "enumerate" = none
 n_int:mg "int" = none
 n_isinstance:mg "isinstance" = none
 n_len:mg "len" = none
 n_list:mg "list" = none
 n_max:mg "max" = none
 n_min:mg "min" = none
 n_range:mg "range" = none
 n_set:mg "set" = none
 n_str:mg "str" = none
 n_tuple:mg "tuple" = none
 cT:Addr
 pT:Addr
 hcT:CodeAt K t_q7.a (.ref cT)
 hcP:PySem.W.codeHdIn K cT pT = true
 kf_edited_0_edit_program:KBinds K t_q30.d ["program", "edit"] ["edit", "program"] (fun us ws => match us,ws with | [],[x0,x1] => [x1,x0] | _,_ => []) (fun us ws => match us,ws with | [],[x0,x1] => [x1,x0] | _,_ => [])
noncomputable def m_q29:FM:=callS 2
   (retS (andV (chainM leP leP (cV (.int 1)) (callM (on1 lenP) (aC (vV 0) aN)) (cV (.int 8))) (callM (on1 allP) (aC (compM (seqM (vV 0)) (gN 1) yesM (binM inP (vV 1) (cV (.str "abcdefghijklmnopqrstuvwxyz"))) [1]) aN))))
noncomputable def m_q26:Nat→FM
 | 0 => fun _ _ => .bad
 | d + 1 => callS 3
   (seqS (asgS (lstM aN) (gN 1))
   (seqS (forS (seqM (vV 0)) (gN 2) (seqS (exprS (mtM "list" appendP (vV 1) (aC (vV 2) aN)))
   (ifS (blM (binM eqP (binM getP (vV 2) (cV (.int 0))) (cV (.str "if")))) (exprS (mtM "list" extendP (vV 1) (aC (binM addP (callD (m_q26 d) (aC (binM getP (vV 2) (cV (.int 2))) aN)) (callD (m_q26 d) (aC (binM getP (vV 2) (cV (.int 3))) aN))) aN))) nopS)))
   (retS (vV 1))))
noncomputable def m_q27:FM:=callS 1
   (retS (callM (on1 lenP) (aC (callD (m_q26 6) (aC (vV 0) aN)) aN)))
noncomputable def m_q6:FM:=callS 2
   (seqS (ifS (blM (binM neP (binM getP (vV 0) (cV (.int 0))) (cV (.str "set")))) (retS (lstM (aC (binM getP (vV 0) (cV (.int 1))) aN))) nopS)
   (seqS (asgS (binM getP (vV 0) (cV (.int 2))) (gN 1))
   (seqS (ifS (blM (binM eqP (binM getP (vV 1) (cV (.int 0))) (cV (.str "call")))) (retS (callM (on1 listP) (aC (binM getP (vV 1) (cV (.int 2))) aN))) nopS)
   (retS (ifM (blM (binM eqP (binM getP (vV 1) (cV (.int 0))) (cV (.str "num")))) (lstM aN) (callM (on1 listP) (aC (slM (vV 1) (oS (cV (.int 1))) oN) aN)))))))
noncomputable def m_q28:FM:=callS 4
   (seqS (ifS (orM (blM (binM neP (binM getP (vV 0) (cV (.int 0))) (cV (.str "set")))) (blM (binM neP (binM getP (binM getP (vV 0) (cV (.int 2))) (cV (.int 0))) (cV (.str "call"))))) (retS (cV .non)) nopS)
   (seqS (asgS (binM getP (vV 0) (cV (.int 2))) (gT 3 (gsC (gN 1) (gsC (gN 2) (gsC (gN 3) gsN)))))
   (retS (tupM (aC (vV 2) (aC (vV 3) aN))))))
noncomputable def m_q24:FM:=callS 1
   (retS (binM addP (callD m_q6 (aC (vV 0) aN)) (lstM (aC (binM getP (vV 0) (cV (.int 1))) aN))))
noncomputable def m_q23:FM:=callS 12
   (seqS (asgS (vV 0) (gT 3 (gsC (gN 5) (gsC (gN 6) (gsC (gN 7) gsN)))))
   (seqS (asgS (callD (m_q26 6) (aC (vV 7) aN)) (gN 2))
   (seqS (asgS (binM addP (comp2M (seqM (vV 2)) (gN 8) yesM (seqM (callD m_q24 (aC (vV 8) aN))) (gN 9) yesM (vV 9) [8,9] [9]) (callM (on1 listP) (aC (vV 6) aN))) (gN 3))
   (seqS (ifS (orM (notM (truM (callM (on1 allP) (aC (compM (seqM (vV 3)) (gN 9) yesM (callD m_q29 (aC (vV 9) aN)) [9]) aN)))) (blM (binM ltP (lenSetM (vV 6)) (callM (on1 lenP) (aC (vV 6) aN))))) (retS (cV (.bl false))) nopS)
   (seqS (asgS (compM (seqM (vV 2)) (gN 8) (blM (notNM (callD m_q28 (aC (vV 8) aN)))) (callD m_q28 (aC (vV 8) aN)) [8]) (gN 4))
   (retS (callM (on1 allP) (aC (compM (seqM (vV 4)) (gT 2 (gsC (gN 10) (gsC (gN 11) gsN))) yesM (andV (binM inP (vV 10) (vV 1)) (binM eqP (callM (on1 lenP) (aC (binM dgetP (vV 1) (vV 10)) aN)) (callM (on1 lenP) (aC (vV 11) aN)))) [10,11]) aN))))))))
noncomputable def m_q4:FM:=callS 8
   (seqS (asgS dictM (gN 2))
   (seqS (forS (seqM (vV 1)) (gT 3 (gsC (gN 5) (gsC (gN 6) (gsC (gN 7) gsN)))) (exprS (m2M setdefP (vV 2) (vV 5) (vV 6))))
   (seqS (asgS (lstM aN) (gN 3))
   (seqS (forS (seqM (vV 1)) (gN 4) (seqS (ifS (orM (notM (truM (callD m_q29 (aC (binM getP (vV 4) (cV (.int 0))) aN)))) (orM (blM (binM inP (binM getP (vV 4) (cV (.int 0))) (vV 3))) (notM (truM (callD m_q23 (aC (vV 4) (aC (vV 2) aN))))))) (raiseS "NoProgram" (binM getP (vV 4) (cV (.int 0)))) nopS)
   (exprS (mtM "list" appendP (vV 3) (aC (binM getP (vV 4) (cV (.int 0))) aN)))))
   (seqS (ifS (blM (binM neP (m2M get2P (vV 2) (cV (.str "main")) (tupM (aC (cV (.str "main")) aN))) (tupM aN))) (raiseS "NoProgram" (cV .non)) nopS)
   (setfS "Program" "definitions_kept" (callM (on1 listP) (aC (vV 1) aN)) (vV 0)))))))
noncomputable def m_q0:FM:=callS 1
   (retS (callM (on1 listP) (aC (fldM "Program" "definitions_kept" (vV 0)) aN)))
noncomputable def m_q16:FM:=callS 2
   (retS (binM eqP (fldM "Program" "definitions_kept" (vV 0)) (fldM "Program" "definitions_kept" (vV 1))))
noncomputable def m_changed (f:Addr) (vm:V) (B:EM PV):Nat→FM
 | 0 => fun _ _ => .bad
 | d + 1 => callS 12
   (seqS (forS (enumAM (vV 0)) (gT 2 (gsC (gN 3) (gsC (gN 4) gsN))) (seqS (ifS (blM (binM eqP (vV 1) (cV (.int 1)))) (retS (binM addP (binM addP (slM (vV 0) oN (oS (vV 3))) (lamCM 2 f vm B (aC (vV 4) aN))) (slM (vV 0) (oS (binM addP (vV 3) (cV (.int 1)))) oN))) nopS)
   (seqS (asgS (callD m_q27 (aC (tupM (aC (vV 4) aN)) aN)) (gN 5))
   (seqS (ifS (blM (binM leP (vV 1) (vV 5))) (seqS (asgS (vV 4) (gT 4 (gsC (gN 7) (gsC (gN 8) (gsC (gN 9) (gsC (gN 10) gsN))))))
   (seqS (asgS (callD m_q27 (aC (vV 9) aN)) (gN 6))
   (seqS (ifS (blM (binM leP (binM subP (vV 1) (cV (.int 1))) (vV 6))) (asgS (tupM (aC (vV 7) (aC (vV 8) (aC (callD (m_changed f vm B d) (aC (vV 9) (aC (binM subP (vV 1) (cV (.int 1))) (aC (vV 2) aN)))) (aC (vV 10) aN))))) (gN 11)) (asgS (tupM (aC (vV 7) (aC (vV 8) (aC (vV 9) (aC (callD (m_changed f vm B d) (aC (vV 10) (aC (binM subP (binM subP (vV 1) (cV (.int 1))) (vV 6)) (aC (vV 2) aN)))) aN))))) (gN 11)))
   (retS (binM addP (binM addP (slM (vV 0) oN (oS (vV 3))) (tupM (aC (vV 11) aN))) (slM (vV 0) (oS (binM addP (vV 3) (cV (.int 1)))) oN)))))) nopS)
   (augS 1 subP (vV 5))))))
   (retS (vV 0)))
noncomputable def lam_0:LamD:=lamRet "rows_edited.<locals>.<lambda>" "elder" "more" ((defBody (topS 18)).getD 6 (.Pass ⟨0,0,0,0⟩))
noncomputable def lamB_0:EM PV:=(tupM (aC (binM getP (vV 1) (cV (.int 0))) aN))
theorem lamS_0:LamS1 2 lam_0 lamB_0:=⟨lamP_by (by decide +kernel),fun _ _ _ _ _ _ => rfl,fun X s H f c2 clo hr => (re_tup (ra_cons (re_ix (re_var 1) re_int) ra_nil))⟩
noncomputable def lam_1:LamD:=lamRet "rows_edited.<locals>.<lambda>" "old" "" (ifFst ((defBody (topS 18)).getD 5 (.Pass ⟨0,0,0,0⟩)))
noncomputable def lamB_1:EM PV:=(tupM aN)
theorem lamS_1:LamS1 2 lam_1 lamB_1:=⟨lamP_by (by decide +kernel),fun _ _ _ _ _ _ => rfl,fun X s H f c2 clo hr => (re_tup ra_nil)⟩
noncomputable def lam_2:LamD:=lamRet "rows_edited.<locals>.<lambda>" "row" "more" (ifFst ((defBody (topS 18)).getD 4 (.Pass ⟨0,0,0,0⟩)))
noncomputable def lamB_2:EM PV:=(tupM (aC (binM getP (vV 1) (cV (.int 0))) (aC (vV 0) aN)))
theorem lamS_2:LamS1 2 lam_2 lamB_2:=⟨lamP_by (by decide +kernel),fun _ _ _ _ _ _ => rfl,fun X s H f c2 clo hr => (re_tup (ra_cons (re_ix (re_var 1) re_int) (ra_cons (re_var 0) ra_nil)))⟩
noncomputable def m_q7:FM:=callS 7
   (seqS (starS 3 (vV 1) (gsC (gN 3) (gsC (gN 4) (gsC (gN 5) (gsC (gN 6) gsN)))))
   (seqS (asgS (callD m_q27 (aC (vV 0) aN)) (gN 2))
   (seqS (ifS (notM (blM (chainM leP leP (cV (.int 1)) (vV 5) (binM addP (vV 2) (callM (on1 intP) (aC (binM eqP (vV 3) (cV (.str "put"))) aN)))))) (raiseS "NoPlace" (tupM (aC (vV 4) (aC (vV 5) aN)))) nopS)
   (seqS (ifS (blM (binM gtP (vV 5) (vV 2))) (retS (binM addP (vV 0) (tupM (aC (binM getP (vV 6) (cV (.int 0))) aN)))) nopS)
   (seqS (ifS (blM (binM eqP (vV 3) (cV (.str "put")))) (retS (lamchM "rows_edited" lam_2.q (fun f vm => m_changed f vm lamB_2 6) (some 6) (vV 0) (vV 5))) nopS)
   (seqS (ifS (blM (binM eqP (vV 3) (cV (.str "cut")))) (retS (lamchM "rows_edited" lam_1.q (fun f vm => m_changed f vm lamB_1 6) none (vV 0) (vV 5))) nopS)
   (retS (lamchM "rows_edited" lam_0.q (fun f vm => m_changed f vm lamB_0 6) (some 6) (vV 0) (vV 5)))))))))
noncomputable def m_q30:FM:=callS 11
   (seqS (asgS (methM "Program" "definitions" m_q0 (vV 0) aN) (gN 2))
   (seqS (starS 2 (vV 1) (gsC (gN 5) (gsC (gN 6) (gsC (gN 8) gsN))))
   (seqS (asgS (compM (seqM (vV 2)) (gN 9) yesM (binM getP (vV 9) (cV (.int 0))) [9]) (gN 3))
   (seqS (ifS (blM (binM eqP (vV 5) (cV (.str "def")))) (seqS (asgS (tupM (aC (vV 6) (aC (binM getP (vV 8) (cV (.int 0))) (aC (binM getP (vV 8) (cV (.int 1))) aN)))) (gN 7))
   (retS (makeM "Program" m_q4 id (aC (binM addP (compM (seqM (vV 2)) (gN 10) yesM (ifM (blM (binM eqP (binM getP (vV 10) (cV (.int 0))) (vV 6))) (vV 7) (vV 10)) [10]) (binM mulLP (lstM (aC (vV 7) aN)) (callM (on1 intP) (aC (binM notInP (vV 6) (vV 3)) aN)))) aN)))) nopS)
   (seqS (ifS (blM (binM notInP (vV 6) (vV 3))) (raiseS "NoPlace" (tupM (aC (vV 6) (aC (ifM (blM (binM eqP (vV 5) (cV (.str "drop")))) (cV .non) (binM getP (vV 8) (cV (.int 0)))) aN)))) nopS)
   (seqS (ifS (blM (binM eqP (vV 5) (cV (.str "drop")))) (retS (makeM "Program" m_q4 id (aC (compM (seqM (vV 2)) (gN 10) (blM (binM neP (binM getP (vV 10) (cV (.int 0))) (vV 6))) (vV 10) [10]) aN))) nopS)
   (seqS (asgS (mtM "list" lindexP (vV 3) (aC (vV 6) aN)) (gN 4))
   (seqS (setS (tupM (aC (vV 6) (aC (binM getP (binM getP (vV 2) (vV 4)) (cV (.int 1))) (aC (callD m_q7 (aC (binM getP (binM getP (vV 2) (vV 4)) (cV (.int 2))) (aC (vV 1) aN))) aN)))) (vV 2) (vV 4))
   (retS (makeM "Program" m_q4 id (aC (vV 2) aN)))))))))))
noncomputable def m_q17:FM:=callS 5
   (seqS (asgS (cV (.int 314159265358979)) (gN 1))
   (seqS (asgS (lstM aN) (gN 2))
   (seqS (forS (seqM (vV 0)) (gN 3) (seqS (asgS (binM modP (binM addP (binM mulP (vV 1) (cV (.int 1000003))) (vV 3)) (binM subP (binM powP (cV (.int 2)) (cV (.int 61))) (cV (.int 1)))) (gN 1))
   (seqS (asgS (callM (on2 maxP) (aC (vV 3) (aC (binM subP (cV (.int 0)) (vV 3)) aN))) (gN 4))
   (ifS (blM (binM geP (vV 4) (binM powP (cV (.int 10)) (cV (.int 18))))) (exprS (mtM "list" appendP (vV 2) (aC (binM subP (vV 4) (binM powP (cV (.int 10)) (cV (.int 18)))) aN))) nopS))))
   (retS (lstM (aC (vV 2) (aC (cV (.int 0)) (aC (vV 1) (aC (cV (.int 0)) aN)))))))))
noncomputable def m_q20:FM:=callS 4
   (seqS (whileS (andM (blM (binM ltP (binM getP (vV 0) (cV (.int 1))) (cV (.int 2)))) (blM (binM neP (binM getP (vV 0) (cV (.int 0))) (lstM aN)))) (setS (mtM "list" popP (binM getP (vV 0) (cV (.int 0))) (aC (cV (.int 0)) aN)) (vV 0) (cV (.int 1))))
   (seqS (ifS (blM (binM geP (binM getP (vV 0) (cV (.int 1))) (cV (.int 2)))) (seqS (asgS (binM modP (binM getP (vV 0) (cV (.int 1))) (vV 1)) (gN 3))
   (seqS (setS (binM fdivP (binM getP (vV 0) (cV (.int 1))) (vV 1)) (vV 0) (cV (.int 1)))
   (retS (vV 3)))) nopS)
   (seqS (setS (binM addP (binM getP (vV 0) (cV (.int 3))) (cV (.int 1))) (vV 0) (cV (.int 3)))
   (seqS (asgS (binM modP (binM addP (binM mulP (binM addP (binM getP (vV 0) (cV (.int 2))) (cV (.int 5))) (binM powP (binM addP (binM getP (vV 0) (cV (.int 3))) (cV (.int 2))) (cV (.int 3)))) (binM mulP (cV (.int 1000003)) (binM getP (vV 0) (cV (.int 3))))) (binM subP (binM powP (cV (.int 2)) (cV (.int 61))) (cV (.int 1)))) (gN 2))
   (retS (binM modP (binM fdivP (binM modP (binM powP (vV 2) (cV (.int 5))) (binM addP (binM powP (cV (.int 10)) (cV (.int 18))) (cV (.int 9)))) (cV (.int 64))) (vV 1)))))))
noncomputable def m_q15:FM:=callS 3
   (seqS (asgS (callD m_q20 (aC (vV 0) (aC (binM powP (cV (.int 10)) (cV (.int 14))) aN))) (gN 1))
   (seqS (forS (rng1M (cV (.int 3))) (gN 2) (asgS (binM addP (binM mulP (vV 1) (binM powP (cV (.int 10)) (cV (.int 15)))) (callD m_q20 (aC (vV 0) (aC (binM powP (cV (.int 10)) (cV (.int 15))) aN)))) (gN 1)))
   (retS (vV 1))))
noncomputable def m_q11:Nat→FM
 | 0 => fun _ _ => .bad
 | d + 1 => callS 3
   (seqS (ifS (blM (isNM (vV 1))) (retS (isNM (vV 0))) nopS)
   (seqS (ifS (truM (isiM "bool" (vV 1))) (retS (andV (isiM "bool" (vV 0)) (binM eqP (vV 0) (vV 1)))) nopS)
   (seqS (ifS (truM (isiM "int" (vV 1))) (retS (andV (isiM "int" (vV 0)) (andV (notV (isiM "bool" (vV 0))) (binM eqP (vV 0) (vV 1))))) nopS)
   (seqS (ifS (truM (isiM "str" (vV 1))) (retS (andV (isiM "str" (vV 0)) (binM eqP (vV 0) (vV 1)))) nopS)
   (seqS (ifS (orM (blM (binM neP (isiM "list" (vV 0)) (isiM "list" (vV 1)))) (blM (binM neP (isiM "tuple" (vV 0)) (isiM "tuple" (vV 1))))) (retS (cV (.bl false))) nopS)
   (seqS (ifS (blM (binM neP (callM (on1 lenP) (aC (vV 0) aN)) (callM (on1 lenP) (aC (vV 1) aN)))) (retS (cV (.bl false))) nopS)
   (seqS (forS (rng1M (callM (on1 lenP) (aC (vV 1) aN))) (gN 2) (ifS (notM (truM (callD (m_q11 d) (aC (binM getP (vV 0) (vV 2)) (aC (binM getP (vV 1) (vV 2)) aN))))) (retS (cV (.bl false))) nopS))
   (retS (cV (.bl true))))))))))
noncomputable def m_q22:FM:=callS 13
   (seqS (asgS (cV (.str "abcdefghijklmnopqrstuvwxyz")) (gN 2))
   (seqS (asgS (callD m_q20 (aC (vV 0) (aC (cV (.int 5)) aN))) (gN 3))
   (seqS (asgS (binM getP (vV 2) (callD m_q20 (aC (vV 0) (aC (cV (.int 26)) aN)))) (gN 4))
   (seqS (asgS (mtM "str" joinP (cV (.str "")) (aC (compM (rng1M (binM addP (cV (.int 1)) (callD m_q20 (aC (vV 0) (aC (cV (.int 8)) aN))))) (gN 11) yesM (binM getP (vV 2) (callD m_q20 (aC (vV 0) (aC (cV (.int 26)) aN)))) [11]) aN)) (gN 5))
   (seqS (ifS (blM (binM eqP (vV 3) (cV (.int 4)))) (seqS (asgS (lstM (aC (cV (.str "set")) (aC (cV (.str "copy")) (aC (cV (.str "add")) (aC (cV (.str "num")) (aC (cV (.str "not")) (aC (cV (.str "same")) (aC (cV (.str "sends")) (aC (cV (.str "next")) (aC (cV (.str "ends")) (aC (cV (.str "mains")) (aC (cV (.str "calls")) (aC (cV (.str "none")) aN))))))))))))) (gN 8))
   (asgS (binM getP (vV 8) (callD m_q20 (aC (vV 0) (aC (cV (.int 12)) aN)))) (gN 5))) (ifS (andM (blM (binM gtP (vV 3) (cV (.int 0)))) (blM (binM neP (vV 1) (lstM aN)))) (seqS (asgS (binM getP (vV 1) (callD m_q20 (aC (vV 0) (aC (callM (on1 lenP) (aC (vV 1) aN)) aN)))) (gN 9))
   (seqS (asgS (callD m_q20 (aC (vV 0) (aC (binM addP (callM (on1 lenP) (aC (vV 9) aN)) (cV (.int 1))) aN))) (gN 10))
   (asgS (slM (binM addP (binM addP (slM (vV 9) oN (oS (vV 10))) (binM getP (lstM (aC (vV 4) (aC (vV 4) (aC (cV (.str "")) aN)))) (binM subP (vV 3) (cV (.int 1))))) (slM (vV 9) (oS (binM addP (vV 10) (binM getP (lstM (aC (cV (.int 0)) (aC (cV (.int 1)) (aC (cV (.int 1)) aN)))) (binM subP (vV 3) (cV (.int 1)))))) oN)) oN (oS (cV (.int 8)))) (gN 5)))) nopS))
   (seqS (asgS (binM addP (binM addP (binM addP (lstM (aC (vV 5) aN)) (compM (seqM (vV 2)) (gN 12) yesM (vV 12) [12])) (compM (seqM (vV 2)) (gN 12) yesM (binM mulP (vV 12) (cV (.int 3))) [12])) (compM (seqM (vV 2)) (gN 12) yesM (binM mulP (vV 12) (cV (.int 5))) [12])) (gN 6))
   (seqS (asgS (lstM (aC (cV (.str "")) (aC (cV (.str "main")) (aC (cV (.str "def")) (aC (cV (.str "end")) (aC (cV (.str "read")) (aC (cV (.str "clean")) (aC (cV (.str "call")) (aC (cV (.str "send")) (aC (cV (.str "give")) (aC (cV (.str "if")) (aC (cV (.str "else")) aN)))))))))))) (gN 7))
   (retS (binM getP (compM (seqM (vV 6)) (gN 12) (blM (binM notInP (vV 12) (binM addP (vV 1) (vV 7)))) (vV 12) [12]) (cV (.int 0)))))))))))
noncomputable def m_q8:FM:=callS 5
   (seqS (asgS (lstM aN) (gN 3))
   (seqS (forS (rng1M (vV 1)) (gN 4) (exprS (mtM "list" appendP (vV 3) (aC (callD m_q22 (aC (vV 0) (aC (binM addP (vV 2) (vV 3)) aN))) aN))))
   (retS (vV 3))))
noncomputable def m_q10:FM:=callS 1
   (seqS (ifS (blM (binM eqP (callD m_q20 (aC (vV 0) (aC (cV (.int 8)) aN))) (cV (.int 7)))) (retS (binM mulP (binM addP (binM mulP (callD m_q15 (aC (vV 0) aN)) (cV (.int 10))) (callD m_q20 (aC (vV 0) (aC (cV (.int 10)) aN)))) (binM subP (cV (.int 1)) (binM mulP (cV (.int 2)) (callD m_q20 (aC (vV 0) (aC (cV (.int 2)) aN))))))) nopS)
   (retS (binM getP (lstM (aC (cV (.int 0)) (aC (cV (.int 1)) (aC (cV (.int 5)) (aC (cV (.int 99)) (aC (cV (.int 100)) (aC (unM negP (cV (.int 1))) (aC (unM negP (cV (.int 7))) (aC (cV (.int 12)) aN))))))))) (callD m_q20 (aC (vV 0) (aC (cV (.int 8)) aN))))))
noncomputable def m_q13:FM:=callS 9
   (seqS (asgS (callD m_q20 (aC (vV 0) (aC (cV (.int 8)) aN))) (gN 3))
   (seqS (asgS (compM (rng1M (cV (.int 4))) (gN 6) yesM (binM getP (vV 1) (callD m_q20 (aC (vV 0) (aC (callM (on1 lenP) (aC (vV 1) aN)) aN)))) [6]) (gN 4))
   (seqS (ifS (blM (binM gtP (vV 3) (cV (.int 5)))) (seqS (asgS (binM getP (vV 2) (callD m_q20 (aC (vV 0) (aC (callM (on1 lenP) (aC (vV 2) aN)) aN)))) (gT 2 (gsC (gN 7) (gsC (gN 8) gsN))))
   (retS (tupM (aC (cV (.str "call")) (aC (vV 7) (aC (callM (on1 tupleP) (aC (slM (vV 4) oN (oS (callM (on1 lenP) (aC (vV 8) aN)))) aN)) aN)))))) nopS)
   (seqS (asgS (lstM (aC (tupM (aC (cV (.str "num")) (aC (callD m_q10 (aC (vV 0) aN)) aN))) (aC (tupM (aC (cV (.str "copy")) (aC (binM getP (vV 4) (cV (.int 0))) aN))) (aC (tupM (aC (cV (.str "add")) (aC (binM getP (vV 4) (cV (.int 0))) (aC (binM getP (vV 4) (cV (.int 1))) aN)))) (aC (tupM (aC (cV (.str "read")) aN)) (aC (tupM (aC (cV (.str "clean")) (aC (binM getP (vV 4) (cV (.int 0))) aN))) aN)))))) (gN 5))
   (retS (binM getP (binM addP (vV 5) (lstM (aC (tupM (aC (cV (.str "read")) aN)) aN))) (vV 3)))))))
mutual
noncomputable def m_q25:Nat→FM
 | 0 => fun _ _ => .bad
 | d + 1 => callS 8
   (seqS (setS (binM subP (binM getP (vV 3) (cV (.int 0))) (cV (.int 1))) (vV 3) (cV (.int 0)))
   (seqS (asgS (callD m_q20 (aC (vV 0) (aC (cV (.int 9)) aN))) (gN 5))
   (seqS (asgS (binM getP (vV 1) (callD m_q20 (aC (vV 0) (aC (callM (on1 lenP) (aC (vV 1) aN)) aN)))) (gN 6))
   (seqS (ifS (andM (blM (binM gtP (vV 5) (cV (.int 6)))) (blM (binM gtP (vV 4) (cV (.int 1))))) (seqS (asgS (callD (m_q18 d) (aC (vV 0) (aC (vV 1) (aC (vV 2) (aC (vV 3) (aC (binM subP (vV 4) (cV (.int 1))) aN)))))) (gN 7))
   (retS (tupM (aC (cV (.str "if")) (aC (vV 6) (aC (vV 7) (aC (callD (m_q18 d) (aC (vV 0) (aC (vV 1) (aC (vV 2) (aC (vV 3) (aC (binM subP (vV 4) (cV (.int 1))) aN)))))) aN))))))) nopS)
   (seqS (ifS (blM (binM ltP (vV 5) (cV (.int 5)))) (retS (tupM (aC (cV (.str "set")) (aC (vV 6) (aC (callD m_q13 (aC (vV 0) (aC (vV 1) (aC (vV 2) aN)))) aN))))) nopS)
   (retS (tupM (aC (binM getP (lstM (aC (cV (.str "send")) (aC (cV (.str "send")) (aC (cV (.str "give")) (aC (cV (.str "send")) aN))))) (callM (on2 minP) (aC (cV (.int 3)) (aC (binM subP (vV 5) (cV (.int 5))) aN)))) (aC (vV 6) aN)))))))))
noncomputable def m_q18:Nat→FM
 | 0 => fun _ _ => .bad
 | d + 1 => callS 7
   (seqS (asgS (lstM aN) (gN 5))
   (seqS (forS (rng1M (callD m_q20 (aC (vV 0) (aC (cV (.int 5)) aN)))) (gN 6) (ifS (blM (binM gtP (binM getP (vV 3) (cV (.int 0))) (cV (.int 0)))) (exprS (mtM "list" appendP (vV 5) (aC (callD (m_q25 d) (aC (vV 0) (aC (vV 1) (aC (vV 2) (aC (vV 3) (aC (vV 4) aN)))))) aN))) nopS))
   (retS (callM (on1 tupleP) (aC (vV 5) aN)))))
end
noncomputable def m_q3:FM:=callS 10
   (seqS (asgS (lstM (aC (tupM (aC (cV (.str "main")) (aC (tupM aN) aN))) aN)) (gN 2))
   (seqS (forS (seqM (callD m_q8 (aC (vV 0) (aC (callD m_q20 (aC (vV 0) (aC (binM getP (lstM (aC (cV (.int 3)) (aC (cV (.int 6)) aN))) (vV 1)) aN))) (aC (lstM aN) aN))))) (gN 3) (seqS (asgS (callM (on1 tupleP) (aC (callD m_q8 (aC (vV 0) (aC (callD m_q20 (aC (vV 0) (aC (binM getP (lstM (aC (cV (.int 4)) (aC (cV (.int 5)) aN))) (vV 1)) aN))) (aC (lstM aN) aN)))) aN)) (gN 6))
   (exprS (mtM "list" insertP (vV 2) (aC (callD m_q20 (aC (vV 0) (aC (binM addP (callM (on1 lenP) (aC (vV 2) aN)) (cV (.int 1))) aN))) (aC (tupM (aC (vV 3) (aC (vV 6) aN))) aN))))))
   (seqS (asgS (callD m_q8 (aC (vV 0) (aC (binM addP (cV (.int 1)) (callD m_q20 (aC (vV 0) (aC (cV (.int 3)) aN)))) (aC (lstM aN) aN)))) (gN 4))
   (seqS (asgS (lstM aN) (gN 5))
   (seqS (forS (seqM (vV 2)) (gT 2 (gsC (gN 3) (gsC (gN 6) gsN))) (seqS (asgS (binM addP (vV 4) (callM (on1 listP) (aC (vV 6) aN))) (gN 7))
   (seqS (asgS (lstM (aC (binM getP (lstM (aC (cV (.int 10)) (aC (cV (.int 30)) aN))) (vV 1)) aN)) (gN 8))
   (seqS (asgS (binM addP (callD (m_q18 8) (aC (vV 0) (aC (vV 7) (aC (vV 2) (aC (vV 8) (aC (cV (.int 4)) aN)))))) (callD (m_q18 8) (aC (vV 0) (aC (vV 7) (aC (vV 2) (aC (vV 8) (aC (cV (.int 4)) aN))))))) (gN 9))
   (exprS (mtM "list" appendP (vV 5) (aC (tupM (aC (vV 3) (aC (vV 6) (aC (vV 9) aN)))) aN)))))))
   (retS (vV 5)))))))
noncomputable def m_q19:FM:=callS 4
   (seqS (asgS (lstM aN) (gN 1))
   (seqS (asgS (callM (on1 listP) (aC (vV 0) aN)) (gN 2))
   (seqS (whileS (blM (binM neP (vV 2) (lstM aN))) (seqS (asgS (mtM "list" popP (vV 2) (aC (cV (.int 0)) aN)) (gN 3))
   (seqS (exprS (mtM "list" appendP (vV 1) (aC (vV 3) aN)))
   (ifS (blM (binM eqP (binM getP (vV 3) (cV (.int 0))) (cV (.str "if")))) (asgS (binM addP (binM addP (callM (on1 listP) (aC (binM getP (vV 3) (cV (.int 2))) aN)) (callM (on1 listP) (aC (binM getP (vV 3) (cV (.int 3))) aN))) (vV 2)) (gN 2)) nopS))))
   (retS (vV 1)))))
noncomputable def m_q9:Nat→FM
 | 0 => fun _ _ => .bad
 | d + 1 => callS 2
   (retS (compM (seqM (vV 0)) (gN 1) yesM (ifM (blM (binM eqP (binM getP (vV 1) (cV (.int 0))) (cV (.str "if")))) (lstM (aC (vV 1) (aC (callD (m_q9 d) (aC (binM getP (vV 1) (cV (.int 2))) aN)) (aC (callD (m_q9 d) (aC (binM getP (vV 1) (cV (.int 3))) aN)) aN)))) (lstM (aC (vV 1) aN))) [1]))
noncomputable def m_q14:Nat→FM
 | 0 => fun _ _ => .bad
 | d + 1 => callS 4
   (seqS (asgS (lstM aN) (gN 1))
   (seqS (forS (seqM (vV 0)) (gN 2) (seqS (asgS (binM getP (vV 2) (cV (.int 0))) (gN 3))
   (seqS (ifS (blM (binM gtP (callM (on1 lenP) (aC (vV 2) aN)) (cV (.int 1)))) (asgS (tupM (aC (cV (.str "if")) (aC (binM getP (vV 3) (cV (.int 1))) (aC (callD (m_q14 d) (aC (binM getP (vV 2) (cV (.int 1))) aN)) (aC (callD (m_q14 d) (aC (binM getP (vV 2) (cV (.int 2))) aN)) aN))))) (gN 3)) nopS)
   (exprS (mtM "list" appendP (vV 1) (aC (vV 3) aN))))))
   (retS (callM (on1 tupleP) (aC (vV 1) aN)))))
noncomputable def m_q12:Nat→FM
 | 0 => fun _ _ => .bad
 | d + 1 => callS 5
   (seqS (asgS (lstM aN) (gN 2))
   (seqS (forS (rng1M (callM (on1 lenP) (aC (vV 0) aN))) (gN 3) (seqS (exprS (mtM "list" appendP (vV 2) (aC (tupM (aC (vV 0) (aC (vV 3) (aC (vV 1) aN)))) aN)))
   (forS (seqM (slM (binM getP (vV 0) (vV 3)) (oS (cV (.int 1))) oN)) (gN 4) (asgS (binM addP (vV 2) (callD (m_q12 d) (aC (vV 4) (aC (binM addP (vV 1) (cV (.int 1))) aN)))) (gN 2)))))
   (retS (vV 2))))
noncomputable def m_q1:FM:=callS 8
   (seqS (asgS (callD (m_q9 6) (aC (vV 0) aN)) (gN 2))
   (seqS (asgS (callD (m_q12 6) (aC (vV 2) (aC (cV (.int 1)) aN))) (gN 3))
   (seqS (asgS (binM getP (vV 1) (cV (.int 2))) (gN 4))
   (seqS (ifS (andM (blM (binM eqP (binM getP (vV 1) (cV (.int 0))) (cV (.str "put")))) (blM (binM eqP (vV 4) (binM addP (callM (on1 lenP) (aC (vV 3) aN)) (cV (.int 1)))))) (exprS (mtM "list" appendP (vV 3) (aC (tupM (aC (vV 2) (aC (callM (on1 lenP) (aC (vV 2) aN)) (aC (cV (.int 1)) aN)))) aN))) nopS)
   (seqS (ifS (notM (blM (chainM leP leP (cV (.int 1)) (vV 4) (callM (on1 lenP) (aC (vV 3) aN))))) (retS (cV .non)) nopS)
   (seqS (asgS (binM getP (vV 3) (binM subP (vV 4) (cV (.int 1)))) (gT 3 (gsC (gN 5) (gsC (gN 6) (gsC (gN 7) gsN)))))
   (seqS (ifS (blM (binM eqP (binM getP (vV 1) (cV (.int 0))) (cV (.str "put")))) (exprS (mtM "list" insertP (vV 5) (aC (vV 6) (aC (binM getP (callD (m_q9 6) (aC (slM (vV 1) (oS (cV (.int 3))) oN) aN)) (cV (.int 0))) aN)))) (ifS (blM (binM eqP (binM getP (vV 1) (cV (.int 0))) (cV (.str "cut")))) (exprS (mtM "list" popP (vV 5) (aC (vV 6) aN))) (setS (binM getP (callD (m_q9 6) (aC (slM (vV 1) (oS (cV (.int 3))) oN) aN)) (cV (.int 0))) (vV 5) (vV 6))))
   (retS (callD (m_q14 6) (aC (vV 2) aN))))))))))
noncomputable def m_q5:FM:=callS 9
   (seqS (asgS (compM (seqM (vV 0)) (gN 8) yesM (binM getP (vV 8) (cV (.int 0))) [8]) (gN 2))
   (seqS (asgS (slM (vV 1) oN (oS (cV (.int 2)))) (gT 2 (gsC (gN 5) (gsC (gN 6) gsN))))
   (seqS (ifS (blM (binM eqP (vV 5) (cV (.str "def")))) (seqS (asgS (tupM (aC (vV 6) (aC (binM getP (vV 1) (cV (.int 2))) (aC (binM getP (vV 1) (cV (.int 3))) aN)))) (gN 7))
   (retS (binM addP (compM (seqM (vV 0)) (gN 8) yesM (ifM (blM (binM eqP (binM getP (vV 8) (cV (.int 0))) (vV 6))) (vV 7) (vV 8)) [8]) (binM mulLP (lstM (aC (vV 7) aN)) (callM (on1 intP) (aC (binM notInP (vV 6) (vV 2)) aN)))))) nopS)
   (seqS (ifS (blM (binM notInP (vV 6) (vV 2))) (retS (cV .non)) nopS)
   (seqS (asgS (mtM "list" lindexP (vV 2) (aC (vV 6) aN)) (gN 3))
   (seqS (ifS (blM (binM eqP (vV 5) (cV (.str "drop")))) (retS (binM addP (slM (vV 0) oN (oS (vV 3))) (slM (vV 0) (oS (binM addP (vV 3) (cV (.int 1)))) oN))) nopS)
   (seqS (asgS (callD m_q1 (aC (binM getP (binM getP (vV 0) (vV 3)) (cV (.int 2))) (aC (vV 1) aN))) (gN 4))
   (seqS (ifS (blM (isNM (vV 4))) (retS (cV .non)) nopS)
   (retS (binM addP (binM addP (slM (vV 0) oN (oS (vV 3))) (lstM (aC (tupM (aC (vV 6) (aC (binM getP (binM getP (vV 0) (vV 3)) (cV (.int 1))) (aC (vV 4) aN)))) aN))) (slM (vV 0) (oS (binM addP (vV 3) (cV (.int 1)))) oN)))))))))))
noncomputable def m_q2:FM:=callS 6
   (seqS (asgS (callD (m_q25 8) (aC (vV 0) (aC (vV 1) (aC (vV 2) (aC (lstM (aC (cV (.int 1)) aN)) (aC (cV (.int 1)) aN)))))) (gN 4))
   (seqS (ifS (andM (blM (binM ltP (vV 3) (cV (.int 4)))) (blM (binM eqP (callD m_q20 (aC (vV 0) (aC (cV (.int 4)) aN))) (cV (.int 0))))) (seqS (asgS (lstM (aC (tupM aN) (aC (tupM (aC (vV 4) aN)) (aC (tupM (aC (vV 4) (aC (callD (m_q25 8) (aC (vV 0) (aC (vV 1) (aC (vV 2) (aC (lstM (aC (cV (.int 1)) aN)) (aC (cV (.int 1)) aN)))))) aN))) aN)))) (gN 5))
   (retS (tupM (aC (cV (.str "if")) (aC (binM getP (vV 1) (callD m_q20 (aC (vV 0) (aC (callM (on1 lenP) (aC (vV 1) aN)) aN)))) (aC (binM getP (vV 5) (callD m_q20 (aC (vV 0) (aC (cV (.int 3)) aN)))) (aC (binM getP (vV 5) (callD m_q20 (aC (vV 0) (aC (cV (.int 2)) aN)))) aN))))))) nopS)
   (retS (vV 4))))
noncomputable def m_q21:FM:=callS 18
   (seqS (asgS (callD m_q20 (aC (vV 0) (aC (cV (.int 8)) aN))) (gN 3))
   (seqS (asgS (compM (seqM (vV 1)) (gN 6) yesM (slM (vV 6) oN (oS (cV (.int 2)))) [6]) (gN 4))
   (seqS (asgS (lstM aN) (gN 5))
   (seqS (forS (seqM (vV 1)) (gN 6) (asgS (binM addP (vV 5) (callD m_q19 (aC (binM getP (vV 6) (cV (.int 2))) aN))) (gN 5)))
   (seqS (asgS (orTM (binM mulLP (compM (seqM (vV 1)) (gN 6) (blM (binM neP (binM getP (vV 6) (cV (.int 2))) (tupM aN))) (vV 6) [6]) (callM (on1 intP) (aC (binM gtP (callM (on1 lenP) (aC (vV 5) aN)) (vV 2)) aN))) (vV 1)) (gN 7))
   (seqS (asgS (binM getP (vV 7) (callD m_q20 (aC (vV 0) (aC (callM (on1 lenP) (aC (vV 7) aN)) aN)))) (gT 3 (gsC (gN 12) (gsC (gN 13) (gsC (gN 14) gsN)))))
   (seqS (asgS (binM addP (lstM (aC (cV (.str "a")) (aC (cV (.str "b")) (aC (cV (.str "c")) aN)))) (callM (on1 listP) (aC (vV 13) aN))) (gN 8))
   (seqS (asgS (callD (m_q12 6) (aC (callD (m_q9 6) (aC (vV 14) aN)) (aC (cV (.int 1)) aN))) (gN 9))
   (seqS (ifS (andM (blM (binM eqP (vV 3) (cV (.int 0)))) (andM (blM (binM ltP (callM (on1 lenP) (aC (vV 1) aN)) (cV (.int 6)))) (blM (binM leP (callM (on1 lenP) (aC (vV 5) aN)) (vV 2))))) (seqS (asgS (callD m_q22 (aC (vV 0) (aC (compM (seqM (vV 1)) (gN 6) yesM (binM getP (vV 6) (cV (.int 0))) [6]) aN))) (gN 15))
   (seqS (asgS (binM tmulP (tupM (aC (callD m_q2 (aC (vV 0) (aC (vV 8) (aC (vV 4) (aC (cV (.int 1)) aN))))) aN)) (callD m_q20 (aC (vV 0) (aC (cV (.int 3)) aN)))) (gN 16))
   (retS (tupM (aC (cV (.str "def")) (aC (vV 15) (aC (callM (on1 tupleP) (aC (callD m_q8 (aC (vV 0) (aC (callD m_q20 (aC (vV 0) (aC (cV (.int 3)) aN))) (aC (lstM aN) aN)))) aN)) (aC (vV 16) aN)))))))) nopS)
   (seqS (ifS (blM (binM eqP (vV 3) (cV (.int 1)))) (retS (tupM (aC (cV (.str "def")) (aC (vV 12) (aC (vV 13) (aC (unM revAP (slM (vV 14) (oS (callD m_q20 (aC (vV 0) (aC (cV (.int 2)) aN)))) oN)) aN)))))) nopS)
   (seqS (asgS (compM (seqM (vV 5)) (gN 17) (andM (blM (binM eqP (binM getP (vV 17) (cV (.int 0))) (cV (.str "set")))) (blM (binM eqP (binM getP (binM getP (vV 17) (cV (.int 2))) (cV (.int 0))) (cV (.str "call"))))) (binM getP (binM getP (vV 17) (cV (.int 2))) (cV (.int 1))) [17]) (gN 10))
   (seqS (ifS (andM (blM (binM eqP (vV 3) (cV (.int 2)))) (andM (blM (binM neP (vV 12) (cV (.str "main")))) (blM (binM notInP (vV 12) (vV 10))))) (retS (tupM (aC (cV (.str "drop")) (aC (vV 12) aN)))) nopS)
   (seqS (ifS (andM (blM (binM neNilP (vV 9) (lstM aN))) (orM (blM (binM eqP (vV 3) (cV (.int 3)))) (orM (blM (binM gtP (callM (on1 lenP) (aC (vV 9) aN)) (cV (.int 24)))) (blM (binM gtP (callM (on1 lenP) (aC (vV 5) aN)) (vV 2)))))) (retS (tupM (aC (cV (.str "cut")) (aC (vV 12) (aC (binM addP (cV (.int 1)) (callD m_q20 (aC (vV 0) (aC (callM (on1 lenP) (aC (vV 9) aN)) aN)))) aN))))) nopS)
   (seqS (asgS (binM addP (cV (.int 1)) (callD m_q20 (aC (vV 0) (aC (binM addP (callM (on1 lenP) (aC (vV 9) aN)) (cV (.int 1))) aN)))) (gN 11))
   (seqS (ifS (blM (binM gtP (vV 11) (callM (on1 lenP) (aC (vV 9) aN)))) (retS (tupM (aC (cV (.str "put")) (aC (vV 12) (aC (vV 11) (aC (callD m_q2 (aC (vV 0) (aC (vV 8) (aC (vV 4) (aC (cV (.int 1)) aN))))) aN)))))) nopS)
   (retS (tupM (aC (binM getP (lstM (aC (cV (.str "put")) (aC (cV (.str "turn")) aN))) (binM modP (vV 3) (cV (.int 2)))) (aC (vV 12) (aC (vV 11) (aC (callD m_q2 (aC (vV 0) (aC (vV 8) (aC (vV 4) (aC (binM getP (binM getP (vV 9) (binM subP (vV 11) (cV (.int 1)))) (cV (.int 2))) aN))))) aN)))))))))))))))))))))
noncomputable def m_law:FM:=callS 9
   (seqS (asgS (callD m_q17 (aC (vV 0) aN)) (gN 1))
   (seqS (forS (rng1M (binM addP (cV (.int 1)) (callM (on1 lenP) (aC (slM (vV 0) oN (oS (cV (.int 3)))) aN)))) (gN 2) (seqS (asgS (callD m_q3 (aC (vV 1) (aC (binM fdivP (callD m_q20 (aC (vV 1) (aC (cV (.int 8)) aN))) (cV (.int 7))) aN))) (gN 3))
   (seqS (asgS (makeM "Program" m_q4 id (aC (callM (on1 listP) (aC (vV 3) aN)) aN)) (gN 4))
   (forS (rng1M (binM addP (cV (.int 4)) (binM mulP (cV (.int 2)) (callM (on1 lenP) (aC (slM (vV 0) (oS (cV (.int 3))) (oS (cV (.int 11)))) aN))))) (gN 5) (seqS (asgS (callD m_q21 (aC (vV 1) (aC (vV 3) (aC (cV (.int 180)) aN)))) (gN 6))
   (seqS (asgS (callD m_q5 (aC (vV 3) (aC (vV 6) aN))) (gN 7))
   (seqS (asgS (callD m_q30 (aC (vV 4) (aC (vV 6) aN))) (gN 8))
   (seqS (ifS (orM (blM (isNM (vV 7))) (orM (notM (truM (callD (m_q11 14) (aC (methM "Program" "definitions" m_q0 (vV 8) aN) (aC (vV 7) aN))))) (notM (truM (callD (m_q11 14) (aC (methM "Program" "definitions" m_q0 (vV 4) aN) (aC (vV 3) aN))))))) (retS (cV (.bl false))) nopS)
   (seqS (ifS (orM (blM (ownEqM "Program" true m_q16 (callKD m_q30 (fun qs => match qs with | [x0,x1] => [x1,x0] | _ => []) (aC (vV 6) (aC (vV 4) aN))) (vV 8))) (notM (truM (callD (m_q11 14) (aC (ownEqM "Program" false m_q16 (vV 8) (makeM "Program" m_q4 id (aC (vV 7) aN))) (aC (cV (.bl true)) aN)))))) (retS (cV (.bl false))) nopS)
   (seqS (asgS (vV 7) (gN 3))
   (asgS (vV 8) (gN 4))))))))))))
   (retS (cV (.bl true)))))
section
variable {P:Program} {w:World} {K:PySem.W.Frag} {mg:Str→Option Value} {base:Heap}
theorem ok_q29 (T:Tx K mg w) (TB:LamX.TabB base mg T.cT T.pT):FnOk P w K mg base (L2.CX P w) 1 T.t_q29.a T.t_q29.d ["text"] (spD P w K mg 1 m_q29):=fn_body (k:=0) T.t_q29.F sc_q29 rfl fun cdv A outer s H Q E hr => by
  have nd:=sc_q29.nd
  have hu1:=hu_of hr
  have hu64:=hr.units
  have hu65:=hu65_of hr
  have tk:=takes_of (X:=cxOf (L2.CX P w) P w K mg base ["text", "letter"] "is_name" (defScope (topS 8)) T.t_q29.a cdv A outer s H E) (E:=E) rfl rfl rfl rfl
  exact (rss_one (rs_ret (re_and (re_chain og_le og_le re_int (re_callB cr_len (by rfl) T.n_len (by decide +kernel) (ra_cons (re_var 0) ra_nil)) (re_globI (by rfl) T.c_MOST_LETTERS)) (re_one (re_callB (cr_allP rfl) (by rfl) T.n_all (by decide +kernel) (ra_cons (re_lc (own:=[("letter",1)]) rfl nd (ri_seq (re_var 0)) (blkOk_by (own:=[("letter",1)]) (N:=["text", "letter"]) (sc:=defScope (topS 8)) (by decide +kernel)) (fun _ _ _ _ _ => (rg_name 1 nd rfl (by first | exact .inl rfl | exact .inr rfl))) (fun _ _ _ _ _ => rts_nil) (fun _ _ _ _ _ => (re_cmp (og_in hu65) (re_var 1) (re_globS (by rfl) T.c_LETTERS))) (by decide)) ra_nil))))))
theorem ok_q26 (T:Tx K mg w) (TB:LamX.TabB base mg T.cT T.pT):∀ d:Nat,FnOk P w K mg base (L2.CX P w) (1 + d) T.t_q26.a T.t_q26.d ["rows"] (spD P w K mg 1 (m_q26 d))
 | 0 => fn_bad
 | d + 1 => by
  have ih_each_row:=ok_q26 T TB d
  exact fn_body (k:=1 + d) T.t_q26.F sc_q26 rfl fun cdv A outer s H Q E hr => by
    have nd:=sc_q26.nd
    have hu1:=hu_of hr
    have hu64:=hr.units
    have hu65:=hu65_of hr
    have tk:=takes_of (X:=cxOf (L2.CX P w) P w K mg base ["rows", "found", "row"] "each_row" (defScope (topS 9)) T.t_q26.a cdv A outer s H E) (E:=E) rfl rfl rfl rfl
    exact (rss_cons (rs_set 1 nd rfl (by first | exact .inl rfl | exact .inr rfl) (re_lst ra_nil))
     (rss_cons (rs_for (passes_of rfl) rfl (ri_seq (re_var 0)) (rg_name 2 nd rfl (by first | exact .inl rfl | exact .inr rfl)) (rss_cons (rs_expr (re_bm PySem.F.plainAttrs_list PySem.F.slot_list_append PySem.F.type_list_append om_append (re_var 1) (ra_cons (re_var 2) ra_nil)))
     (rss_one (rs_if (rt_cmp (og_eq hu64) (re_ix (re_var 2) re_int) re_str) (rss_one (rs_expr (re_bm PySem.F.plainAttrs_list PySem.F.slot_list_extend PySem.F.type_list_extend om_extend (re_var 1) (ra_cons (re_bin og_add (re_call ih_each_row (hr.mono (by omega)) (by rfl) T.t_q26.g T.t_q26.F.kp T.t_q26.b tk (ra_cons (re_ix (re_var 2) re_int) ra_nil) (aC_len aN_len)) (re_call ih_each_row (hr.mono (by omega)) (by rfl) T.t_q26.g T.t_q26.F.kp T.t_q26.b tk (ra_cons (re_ix (re_var 2) re_int) ra_nil) (aC_len aN_len))) ra_nil)))) rss_nil))))
     (rss_one (rs_ret (re_var 1)))))
theorem ok_q27 (T:Tx K mg w) (TB:LamX.TabB base mg T.cT T.pT):FnOk P w K mg base (L2.CX P w) 8 T.t_q27.a T.t_q27.d ["rows"] (spD P w K mg 1 m_q27):=fn_body (k:=7) T.t_q27.F sc_q27 rfl fun cdv A outer s H Q E hr => by
  have nd:=sc_q27.nd
  have hu1:=hu_of hr
  have hu64:=hr.units
  have hu65:=hu65_of hr
  have tk:=takes_of (X:=cxOf (L2.CX P w) P w K mg base ["rows"] "size_of" (defScope (topS 10)) T.t_q27.a cdv A outer s H E) (E:=E) rfl rfl rfl rfl
  exact (rss_one (rs_ret (re_callB cr_len (by rfl) T.n_len (by decide +kernel) (ra_cons (re_call (ok_q26 T TB 6) (hr.mono (by omega)) (by rfl) T.t_q26.g T.t_q26.F.kp T.t_q26.b tk (ra_cons (re_var 0) ra_nil) (aC_len aN_len)) ra_nil))))
theorem ok_q6 (T:Tx K mg w) (TB:LamX.TabB base mg T.cT T.pT):FnOk P w K mg base (L2.CX P w) 1 T.t_q6.a T.t_q6.d ["row"] (spD P w K mg 1 m_q6):=fn_body (k:=0) T.t_q6.F sc_q6 rfl fun cdv A outer s H Q E hr => by
  have nd:=sc_q6.nd
  have hu1:=hu_of hr
  have hu64:=hr.units
  have hu65:=hu65_of hr
  have tk:=takes_of (X:=cxOf (L2.CX P w) P w K mg base ["row", "value"] "names_asked" (defScope (topS 11)) T.t_q6.a cdv A outer s H E) (E:=E) rfl rfl rfl rfl
  exact (rss_cons (rs_if (rt_cmp (og_ne hu64) (re_ix (re_var 0) re_int) re_str) (rss_one (rs_ret (re_lst (ra_cons (re_ix (re_var 0) re_int) ra_nil)))) rss_nil)
   (rss_cons (rs_set 1 nd rfl (by first | exact .inl rfl | exact .inr rfl) (re_ix (re_var 0) re_int))
   (rss_cons (rs_if (rt_cmp (og_eq hu64) (re_ix (re_var 1) re_int) re_str) (rss_one (rs_ret (re_callTy cr_list (by rfl) T.n_list (by decide +kernel) (ra_cons (re_ix (re_var 1) re_int) ra_nil)))) rss_nil)
   (rss_one (rs_ret (re_if (rt_cmp (og_eq hu64) (re_ix (re_var 1) re_int) re_str) (re_lst ra_nil) (re_callTy cr_list (by rfl) T.n_list (by decide +kernel) (ra_cons (re_slice (re_var 1) (ro_some re_int) ro_none) ra_nil))))))))
theorem ok_q28 (T:Tx K mg w) (TB:LamX.TabB base mg T.cT T.pT):FnOk P w K mg base (L2.CX P w) 1 T.t_q28.a T.t_q28.d ["row"] (spD P w K mg 1 m_q28):=fn_body (k:=0) T.t_q28.F sc_q28 rfl fun cdv A outer s H Q E hr => by
  have nd:=sc_q28.nd
  have hu1:=hu_of hr
  have hu64:=hr.units
  have hu65:=hu65_of hr
  have tk:=takes_of (X:=cxOf (L2.CX P w) P w K mg base ["row", "word", "definition", "names"] "call_of" (defScope (topS 12)) T.t_q28.a cdv A outer s H E) (E:=E) rfl rfl rfl rfl
  exact (rss_cons (rs_if (rt_of (rw_or (rt_cmp (og_ne hu64) (re_ix (re_var 0) re_int) re_str) (rw_or1 (rt_cmp (og_ne hu64) (re_ix (re_ix (re_var 0) re_int) re_int) re_str)))) (rss_one (rs_ret re_non)) rss_nil)
   (rss_cons (rs_asg (re_ix (re_var 0) re_int) (rg_tup rfl (rgs_cons (rg_name 1 nd rfl (by first | exact .inl rfl | exact .inr rfl)) (rgs_cons (rg_name 2 nd rfl (by first | exact .inl rfl | exact .inr rfl)) (rgs_cons (rg_name 3 nd rfl (by first | exact .inl rfl | exact .inr rfl)) rgs_nil)))))
   (rss_one (rs_ret (re_tup (ra_cons (re_var 2) (ra_cons (re_var 3) ra_nil)))))))
theorem ok_q24 (T:Tx K mg w) (TB:LamX.TabB base mg T.cT T.pT):FnOk P w K mg base (L2.CX P w) 2 T.t_q24.a T.t_q24.d ["row"] (spD P w K mg 1 m_q24):=fn_body (k:=1) T.t_q24.F sc_q24 rfl fun cdv A outer s H Q E hr => by
  have nd:=sc_q24.nd
  have hu1:=hu_of hr
  have hu64:=hr.units
  have hu65:=hu65_of hr
  have tk:=takes_of (X:=cxOf (L2.CX P w) P w K mg base ["row"] "names_in" (defScope (topS 13)) T.t_q24.a cdv A outer s H E) (E:=E) rfl rfl rfl rfl
  exact (rss_one (rs_ret (re_bin og_add (re_call (ok_q6 T TB) (hr.mono (by omega)) (by rfl) T.t_q6.g T.t_q6.F.kp T.t_q6.b tk (ra_cons (re_var 0) ra_nil) (aC_len aN_len)) (re_lst (ra_cons (re_ix (re_var 0) re_int) ra_nil)))))
theorem ok_q23 (T:Tx K mg w) (TB:LamX.TabB base mg T.cT T.pT):FnOk P w K mg base (L2.CX P w) 8 T.t_q23.a T.t_q23.d ["definition", "others"] (spD P w K mg 2 m_q23):=fn_body (k:=7) T.t_q23.F sc_q23 rfl fun cdv A outer s H Q E hr => by
  have nd:=sc_q23.nd
  have hu1:=hu_of hr
  have hu64:=hr.units
  have hu65:=hu65_of hr
  have tk:=takes_of (X:=cxOf (L2.CX P w) P w K mg base ["definition", "others", "every", "names", "calls", "name", "parameters", "rows", "row", "one", "called", "given"] "is_sound" (defScope (topS 14)) T.t_q23.a cdv A outer s H E) (E:=E) rfl rfl rfl rfl
  exact (rss_cons (rs_asg (re_var 0) (rg_tup rfl (rgs_cons (rg_name 5 nd rfl (by first | exact .inl rfl | exact .inr rfl)) (rgs_cons (rg_name 6 nd rfl (by first | exact .inl rfl | exact .inr rfl)) (rgs_cons (rg_name 7 nd rfl (by first | exact .inl rfl | exact .inr rfl)) rgs_nil)))))
   (rss_cons (rs_set 2 nd rfl (by first | exact .inl rfl | exact .inr rfl) (re_call (ok_q26 T TB 6) (hr.mono (by omega)) (by rfl) T.t_q26.g T.t_q26.F.kp T.t_q26.b tk (ra_cons (re_var 7) ra_nil) (aC_len aN_len)))
   (rss_cons (rs_set 3 nd rfl (by first | exact .inl rfl | exact .inr rfl) (re_bin og_add (re_lc2 (own:=[("row",8),("one",9)]) rfl nd (ri_seq (re_var 2)) (blkOk_by (own:=[("row",8),("one",9)]) (N:=["definition", "others", "every", "names", "calls", "name", "parameters", "rows", "row", "one", "called", "given"]) (sc:=defScope (topS 14)) (by decide +kernel)) (vs1:=[9]) (by decide) (fun _ _ _ _ _ => (rg_name 8 nd rfl (by first | exact .inl rfl | exact .inr rfl))) (fun _ _ _ _ _ => rts_nil) (fun _ _ _ _ _ => (ri_seq (re_call (ok_q24 T TB) (hr.mono (by omega)) (by rfl) T.t_q24.g T.t_q24.F.kp T.t_q24.b takes0 (ra_cons (re_var 8) ra_nil) (aC_len aN_len)))) (fun _ _ _ _ _ => (rg_name 9 nd rfl (by first | exact .inl rfl | exact .inr rfl))) (fun _ _ _ _ _ => rts_nil) (fun _ _ _ _ _ => (re_var 9)) (by decide) (by decide)) (re_callTy cr_list (by rfl) T.n_list (by decide +kernel) (ra_cons (re_var 6) ra_nil))))
   (rss_cons (rs_if (rt_of (rw_or (rt_not (rt_tru (re_callB (cr_allP rfl) (by rfl) T.n_all (by decide +kernel) (ra_cons (re_lc (own:=[("one",9)]) rfl nd (ri_seq (re_var 3)) (blkOk_by (own:=[("one",9)]) (N:=["definition", "others", "every", "names", "calls", "name", "parameters", "rows", "row", "one", "called", "given"]) (sc:=defScope (topS 14)) (by decide +kernel)) (fun _ _ _ _ _ => (rg_name 9 nd rfl (by first | exact .inl rfl | exact .inr rfl))) (fun _ _ _ _ _ => rts_nil) (fun _ _ _ _ _ => (re_call (ok_q29 T TB) (hr.mono (by omega)) (by rfl) T.t_q29.g T.t_q29.F.kp T.t_q29.b takes0 (ra_cons (re_var 9) ra_nil) (aC_len aN_len))) (by decide)) ra_nil)))) (rw_or1 (rt_cmp og_lt (re_lenSet rfl (by rfl) T.n_len (by rfl) T.n_set (re_var 6)) (re_callB cr_len (by rfl) T.n_len (by decide +kernel) (ra_cons (re_var 6) ra_nil)))))) (rss_one (rs_ret re_bl)) rss_nil)
   (rss_cons (rs_setLc 4 (own:=[("row",8)]) rfl nd rfl rfl (sw_true rfl rfl rfl (by decide +kernel)) (ri_seq (re_var 2)) (blkOk_by (own:=[("row",8)]) (N:=["definition", "others", "every", "names", "calls", "name", "parameters", "rows", "row", "one", "called", "given"]) (sc:=defScope (topS 14)) (by decide +kernel)) (fun _ _ _ _ _ => (rg_name 8 nd rfl (by first | exact .inl rfl | exact .inr rfl))) (fun _ _ _ _ _ => (rts_one (rt_notN (re_call (ok_q28 T TB) (hr.mono (by omega)) (by rfl) T.t_q28.g T.t_q28.F.kp T.t_q28.b takes0 (ra_cons (re_var 8) ra_nil) (aC_len aN_len))))) (fun _ _ _ _ _ => (re_call (ok_q28 T TB) (hr.mono (by omega)) (by rfl) T.t_q28.g T.t_q28.F.kp T.t_q28.b takes0 (ra_cons (re_var 8) ra_nil) (aC_len aN_len))) (by decide))
   (rss_one (rs_ret (re_callB (cr_allP rfl) (by rfl) T.n_all (by decide +kernel) (ra_cons (re_lc (own:=[("called",10),("given",11)]) rfl nd (ri_seq (re_var 4)) (blkOk_by (own:=[("called",10),("given",11)]) (N:=["definition", "others", "every", "names", "calls", "name", "parameters", "rows", "row", "one", "called", "given"]) (sc:=defScope (topS 14)) (by decide +kernel)) (fun _ _ _ _ _ => (rg_tup rfl (rgs_cons (rg_name 10 nd rfl (by first | exact .inl rfl | exact .inr rfl)) (rgs_cons (rg_name 11 nd rfl (by first | exact .inl rfl | exact .inr rfl)) rgs_nil)))) (fun _ _ _ _ _ => rts_nil) (fun _ _ _ _ _ => (re_and (re_cmp (og_in hu65) (re_var 10) (re_var 1)) (re_one (re_cmp (og_eq hu64) (re_callB cr_len (by rfl) T.n_len (by decide +kernel) (ra_cons (re_dget hu1 (re_var 1) (re_var 10)) ra_nil)) (re_callB cr_len (by rfl) T.n_len (by decide +kernel) (ra_cons (re_var 11) ra_nil)))))) (by decide)) ra_nil)))))))))
theorem ok_q4 (T:Tx K mg w) (TB:LamX.TabB base mg T.cT T.pT):FnOk P w K mg base (L2.CX P w) 11 T.t_q4.a T.t_q4.d ["self", "definitions"] (spD P w K mg 2 m_q4):=fn_body (k:=10) T.t_q4.F sc_q4 rfl fun cdv A outer s H Q E hr => by
  have nd:=sc_q4.nd
  have hu1:=hu_of hr
  have hu64:=hr.units
  have hu65:=hu65_of hr
  have tk:=takes_of (X:=cxOf (L2.CX P w) P w K mg base ["self", "definitions", "others", "met", "definition", "name", "parameters", "rows"] "Program.__init__" (defScope (inClass (topS 15) 0)) T.t_q4.a cdv A outer s H E) (E:=E) rfl rfl rfl rfl
  exact (rss_cons (rs_set 2 nd rfl (by first | exact .inl rfl | exact .inr rfl) re_dict0)
   (rss_cons (rs_for (passes_of rfl) rfl (ri_seq (re_var 1)) (rg_tup rfl (rgs_cons (rg_name 5 nd rfl (by first | exact .inl rfl | exact .inr rfl)) (rgs_cons (rg_name 6 nd rfl (by first | exact .inl rfl | exact .inr rfl)) (rgs_cons (rg_name 7 nd rfl (by first | exact .inl rfl | exact .inr rfl)) rgs_nil)))) (rss_one (rs_expr (re_setdef (re_var 2) (re_var 5) (re_var 6) ⟨rfl,rfl,rfl,rfl⟩))))
   (rss_cons (rs_set 3 nd rfl (by first | exact .inl rfl | exact .inr rfl) (re_lst ra_nil))
   (rss_cons (rs_for (passes_of rfl) rfl (ri_seq (re_var 1)) (rg_name 4 nd rfl (by first | exact .inl rfl | exact .inr rfl)) (rss_cons (rs_if (rt_of (rw_or (rt_not (rt_tru (re_call (ok_q29 T TB) (hr.mono (by omega)) (by rfl) T.t_q29.g T.t_q29.F.kp T.t_q29.b tk (ra_cons (re_ix (re_var 4) re_int) ra_nil) (aC_len aN_len)))) (rw_or (rt_cmp (og_in hu65) (re_ix (re_var 4) re_int) (re_var 3)) (rw_or1 (rt_not (rt_tru (re_call (ok_q23 T TB) (hr.mono (by omega)) (by rfl) T.t_q23.g T.t_q23.F.kp T.t_q23.b tk (ra_cons (re_var 4) (ra_cons (re_var 2) ra_nil)) (aC_len (aC_len aN_len))))))))) (rss_one (rs_raise T.x_NoProgram T.i_init (fn_init T.t_einit T.sc_einit T.bo_einit (k:=0)) (hr.mono (by omega)) T.b_einit (by rfl) rfl tk (re_ix (re_var 4) re_int))) rss_nil)
   (rss_one (rs_expr (re_bm PySem.F.plainAttrs_list PySem.F.slot_list_append PySem.F.type_list_append om_append (re_var 3) (ra_cons (re_ix (re_var 4) re_int) ra_nil))))))
   (rss_cons (rs_if (rt_cmp (og_ne hu64) (re_get2 hu1 (re_var 2) (re_globS (by rfl) T.c_MAIN) (re_tup (ra_cons (re_globS (by rfl) T.c_MAIN) ra_nil)) ⟨rfl,rfl,rfl,rfl⟩) (re_tup ra_nil)) (rss_one (rs_raise T.x_NoProgram T.i_init (fn_init T.t_einit T.sc_einit T.bo_einit (k:=0)) (hr.mono (by omega)) T.b_einit (by rfl) rfl tk re_non)) rss_nil)
   (rss_one (rs_fld T.g_Program T.cl_Program T.na_definitions_kept (re_var 0) (re_callTy cr_list (by rfl) T.n_list (by decide +kernel) (ra_cons (re_var 1) ra_nil)))))))))
theorem ok_q0 (T:Tx K mg w) (TB:LamX.TabB base mg T.cT T.pT):FnOk P w K mg base (L2.CX P w) 1 T.t_q0.a T.t_q0.d ["self"] (spD P w K mg 1 m_q0):=fn_body (k:=0) T.t_q0.F sc_q0 rfl fun cdv A outer s H Q E hr => by
  have nd:=sc_q0.nd
  have hu1:=hu_of hr
  have hu64:=hr.units
  have hu65:=hu65_of hr
  have tk:=takes_of (X:=cxOf (L2.CX P w) P w K mg base ["self"] "Program.definitions" (defScope (inClass (topS 15) 1)) T.t_q0.a cdv A outer s H E) (E:=E) rfl rfl rfl rfl
  exact (rss_one (rs_ret (re_callTy cr_list (by rfl) T.n_list (by decide +kernel) (ra_cons (re_fld T.g_Program T.cl_Program T.na_definitions_kept (re_var 0)) ra_nil))))
theorem ok_q16 (T:Tx K mg w) (TB:LamX.TabB base mg T.cT T.pT):FnOk P w K mg base (L2.CX P w) 1 T.t_q16.a T.t_q16.d ["self", "other"] (spD P w K mg 2 m_q16):=fn_body (k:=0) T.t_q16.F sc_q16 rfl fun cdv A outer s H Q E hr => by
  have nd:=sc_q16.nd
  have hu1:=hu_of hr
  have hu64:=hr.units
  have hu65:=hu65_of hr
  have tk:=takes_of (X:=cxOf (L2.CX P w) P w K mg base ["self", "other"] "Program.__eq__" (defScope (inClass (topS 15) 5)) T.t_q16.a cdv A outer s H E) (E:=E) rfl rfl rfl rfl
  exact (rss_one (rs_ret (re_cmp (og_eq hu64) (re_fld T.g_Program T.cl_Program T.na_definitions_kept (re_var 0)) (re_fld T.g_Program T.cl_Program T.na_definitions_kept (re_var 1)))))
theorem ok_changed (T:Tx K mg w) (TB:LamX.TabB base mg T.cT T.pT) {f c2:Addr} {fo co:Obj} {vm:V} {D:LamD} {B:EM PV} (LS:LamS1 2 D B) (LF:LamF base f c2 fo co vm D):∀ d:Nat,FnOk P w K mg base (L2.CX P w) (9 + d) T.t_changed.a T.t_changed.d ["rows", "number", "change"] (spL f c2 fo co (spD P w K mg 3 (m_changed f vm B d)))
 | 0 => fn_badL
 | d + 1 => by
  have ih_changed:=ok_changed T TB LS LF d
  exact fn_bodyL (k:=9 + d) T.t_changed.F sc_changed rfl fun cdv A outer s H Q E hr hk => by
    have nd:=sc_changed.nd
    have hu1:=hu_of hr
    have hu64:=hr.units
    have hu65:=hu65_of hr
    have tk:=takes_of (X:=cxOf (L2.CX P w) P w K mg base ["rows", "number", "change", "at", "row", "size", "many", "word", "name", "ones", "others", "inner"] "changed" (defScope (topS 17)) T.t_changed.a cdv A outer s H E) (E:=E) rfl rfl rfl rfl
    exact (rss_cons (rs_for (passes_of rfl) rfl (ri_enumA (by rfl) T.n_enumerate (re_var 0)) (rg_tup rfl (rgs_cons (rg_name 3 nd rfl (by first | exact .inl rfl | exact .inr rfl)) (rgs_cons (rg_name 4 nd rfl (by first | exact .inl rfl | exact .inr rfl)) rgs_nil))) (rss_cons (rs_if (rt_cmp (og_eq hu64) (re_var 1) re_int) (rss_one (rs_ret (re_bin og_add (re_bin og_add (re_slice (re_var 0) ro_none (ro_some (re_var 3))) (re_lamc 2 rfl (by first | exact Or.inl rfl | exact Or.inr (Or.inl rfl) | exact Or.inr (Or.inr rfl)) hk LS LF (hr.mono (by omega)) (ra_cons (re_var 4) ra_nil))) (re_slice (re_var 0) (ro_some (re_bin og_add (re_var 3) re_int)) ro_none)))) rss_nil)
     (rss_cons (rs_set 5 nd rfl (by first | exact .inl rfl | exact .inr rfl) (re_call (ok_q27 T TB) (hr.mono (by omega)) (by rfl) T.t_q27.g T.t_q27.F.kp T.t_q27.b tk (ra_cons (re_tup (ra_cons (re_var 4) ra_nil)) ra_nil) (aC_len aN_len)))
     (rss_cons (rs_if (rt_cmp og_le (re_var 1) (re_var 5)) (rss_cons (rs_asg (re_var 4) (rg_tup rfl (rgs_cons (rg_name 7 nd rfl (by first | exact .inl rfl | exact .inr rfl)) (rgs_cons (rg_name 8 nd rfl (by first | exact .inl rfl | exact .inr rfl)) (rgs_cons (rg_name 9 nd rfl (by first | exact .inl rfl | exact .inr rfl)) (rgs_cons (rg_name 10 nd rfl (by first | exact .inl rfl | exact .inr rfl)) rgs_nil))))))
     (rss_cons (rs_set 6 nd rfl (by first | exact .inl rfl | exact .inr rfl) (re_call (ok_q27 T TB) (hr.mono (by omega)) (by rfl) T.t_q27.g T.t_q27.F.kp T.t_q27.b tk (ra_cons (re_var 9) ra_nil) (aC_len aN_len)))
     (rss_cons (rs_if (rt_cmp og_le (re_bin og_sub (re_var 1) re_int) (re_var 6)) (rss_one (rs_set 11 nd rfl (by first | exact .inl rfl | exact .inr rfl) (re_tup (ra_cons (re_var 7) (ra_cons (re_var 8) (ra_cons (re_callL hk ih_changed (hr.mono (by omega)) (by rfl) T.t_changed.g T.t_changed.F.kp T.t_changed.b tk (ra_cons (re_var 9) (ra_cons (re_bin og_sub (re_var 1) re_int) (ra_cons (re_var 2) ra_nil))) (aC_len (aC_len (aC_len aN_len)))) (ra_cons (re_var 10) ra_nil))))))) (rss_one (rs_set 11 nd rfl (by first | exact .inl rfl | exact .inr rfl) (re_tup (ra_cons (re_var 7) (ra_cons (re_var 8) (ra_cons (re_var 9) (ra_cons (re_callL hk ih_changed (hr.mono (by omega)) (by rfl) T.t_changed.g T.t_changed.F.kp T.t_changed.b tk (ra_cons (re_var 10) (ra_cons (re_bin og_sub (re_bin og_sub (re_var 1) re_int) (re_var 6)) (ra_cons (re_var 2) ra_nil))) (aC_len (aC_len (aC_len aN_len)))) ra_nil))))))))
     (rss_one (rs_ret (re_bin og_add (re_bin og_add (re_slice (re_var 0) ro_none (ro_some (re_var 3))) (re_tup (ra_cons (re_var 11) ra_nil))) (re_slice (re_var 0) (ro_some (re_bin og_add (re_var 3) re_int)) ro_none))))))) rss_nil)
     (rss_one (rs_aug 1 nd rfl (by first | exact .inl rfl | exact .inr rfl) (re_var 5) pip_sub))))))
     (rss_one (rs_ret (re_var 0))))
theorem ok_q7 (T:Tx K mg w) (TB:LamX.TabB base mg T.cT T.pT):FnOk P w K mg base (L2.CX P w) 18 T.t_q7.a T.t_q7.d ["rows", "edit"] (spD P w K mg 2 m_q7):=fn_bodyC (k:=17) T.t_q7.F sc_q7 rfl fun cdv A outer s H Q E hr hcd => by
  have nd:=sc_q7.nd
  have hu1:=hu_of hr
  have hu64:=hr.units
  have hu65:=hu65_of hr
  have tk:=takes_of (X:=cxOf (L2.CX P w) P w K mg base ["rows", "edit", "many", "word", "definition", "number", "more"] "rows_edited" (defScope (topS 18)) T.t_q7.a cdv A outer s H E) (E:=E) rfl rfl rfl rfl
  exact (rss_cons (rs_star rfl (re_var 1) (rgs_cons (rg_name 3 nd rfl (by first | exact .inl rfl | exact .inr rfl)) (rgs_cons (rg_name 4 nd rfl (by first | exact .inl rfl | exact .inr rfl)) (rgs_cons (rg_name 5 nd rfl (by first | exact .inl rfl | exact .inr rfl)) (rgs_cons (rg_name 6 nd rfl (by first | exact .inl rfl | exact .inr rfl)) rgs_nil)))))
   (rss_cons (rs_set 2 nd rfl (by first | exact .inl rfl | exact .inr rfl) (re_call (ok_q27 T TB) (hr.mono (by omega)) (by rfl) T.t_q27.g T.t_q27.F.kp T.t_q27.b tk (ra_cons (re_var 0) ra_nil) (aC_len aN_len)))
   (rss_cons (rs_if (rt_not (rt_chain og_le og_le re_int (re_var 5) (re_bin og_add (re_var 2) (re_callTy cr_int (by rfl) T.n_int (by decide +kernel) (ra_cons (re_cmp (og_eq hu64) (re_var 3) re_str) ra_nil))))) (rss_one (rs_raise T.x_NoPlace T.i_init (fn_init T.t_einit T.sc_einit T.bo_einit (k:=0)) (hr.mono (by omega)) T.b_einit (by rfl) rfl tk (re_tup (ra_cons (re_var 4) (ra_cons (re_var 5) ra_nil))))) rss_nil)
   (rss_cons (rs_if (rt_cmp og_gt (re_var 5) (re_var 2)) (rss_one (rs_ret (re_bin og_add (re_var 0) (re_tup (ra_cons (re_ix (re_var 6) re_int) ra_nil))))) rss_nil)
   (rss_cons (rs_if (rt_cmp (og_eq hu64) (re_var 3) re_str) (rss_one (rs_ret (re_lamch (D:=lam_2) (gm:=T.t_q7.a) T.t_q7.g hcd TB T.hcP T.hcT (by rfl) (fun base2 f c2 fo co vm up LF => ok_changed T (TabB_up TB up) lamS_2 LF 6) (hr.mono (by omega)) (by rfl) T.t_changed.g T.t_changed.F.kp T.t_changed.b rfl tk (re_var 0) (re_var 5) rfl (lamFr_by (sc:=defScope (topS 18)) (by decide +kernel)) (fun _ => rfl) (by first | exact ⟨rfl,rfl⟩ | rfl)))) rss_nil)
   (rss_cons (rs_if (rt_cmp (og_eq hu64) (re_var 3) re_str) (rss_one (rs_ret (re_lamch (D:=lam_1) (gm:=T.t_q7.a) T.t_q7.g hcd TB T.hcP T.hcT (by rfl) (fun base2 f c2 fo co vm up LF => ok_changed T (TabB_up TB up) lamS_1 LF 6) (hr.mono (by omega)) (by rfl) T.t_changed.g T.t_changed.F.kp T.t_changed.b rfl tk (re_var 0) (re_var 5) rfl (lamFr_by (sc:=defScope (topS 18)) (by decide +kernel)) (fun _ => rfl) (by first | exact ⟨rfl,rfl⟩ | rfl)))) rss_nil)
   (rss_one (rs_ret (re_lamch (D:=lam_0) (gm:=T.t_q7.a) T.t_q7.g hcd TB T.hcP T.hcT (by rfl) (fun base2 f c2 fo co vm up LF => ok_changed T (TabB_up TB up) lamS_0 LF 6) (hr.mono (by omega)) (by rfl) T.t_changed.g T.t_changed.F.kp T.t_changed.b rfl tk (re_var 0) (re_var 5) rfl (lamFr_by (sc:=defScope (topS 18)) (by decide +kernel)) (fun _ => rfl) (by first | exact ⟨rfl,rfl⟩ | rfl))))))))))
theorem ok_q30 (T:Tx K mg w) (TB:LamX.TabB base mg T.cT T.pT):FnOk P w K mg base (L2.CX P w) 21 T.t_q30.a T.t_q30.d ["program", "edit"] (spD P w K mg 2 m_q30):=fn_body (k:=20) T.t_q30.F sc_q30 rfl fun cdv A outer s H Q E hr => by
  have nd:=sc_q30.nd
  have hu1:=hu_of hr
  have hu64:=hr.units
  have hu65:=hu65_of hr
  have tk:=takes_of (X:=cxOf (L2.CX P w) P w K mg base ["program", "edit", "found", "names", "at", "word", "name", "made", "more", "definition", "one"] "edited" (defScope (topS 19)) T.t_q30.a cdv A outer s H E) (E:=E) rfl rfl rfl rfl
  exact (rss_cons (rs_set 2 nd rfl (by first | exact .inl rfl | exact .inr rfl) (re_meth0 T.g_Program T.cl_Program T.m_q0 (ok_q0 T TB) (hr.mono (by omega)) T.t_q0.b tk (re_var 0)))
   (rss_cons (rs_star rfl (re_var 1) (rgs_cons (rg_name 5 nd rfl (by first | exact .inl rfl | exact .inr rfl)) (rgs_cons (rg_name 6 nd rfl (by first | exact .inl rfl | exact .inr rfl)) (rgs_cons (rg_name 8 nd rfl (by first | exact .inl rfl | exact .inr rfl)) rgs_nil))))
   (rss_cons (rs_setLc 3 (own:=[("definition",9)]) rfl nd rfl rfl (sw_true rfl rfl rfl (by decide +kernel)) (ri_seq (re_var 2)) (blkOk_by (own:=[("definition",9)]) (N:=["program", "edit", "found", "names", "at", "word", "name", "made", "more", "definition", "one"]) (sc:=defScope (topS 19)) (by decide +kernel)) (fun _ _ _ _ _ => (rg_name 9 nd rfl (by first | exact .inl rfl | exact .inr rfl))) (fun _ _ _ _ _ => rts_nil) (fun _ _ _ _ _ => (re_ix (re_var 9) re_int)) (by decide))
   (rss_cons (rs_if (rt_cmp (og_eq hu64) (re_var 5) re_str) (rss_cons (rs_set 7 nd rfl (by first | exact .inl rfl | exact .inr rfl) (re_tup (ra_cons (re_var 6) (ra_cons (re_ix (re_var 8) re_int) (ra_cons (re_ix (re_var 8) re_int) ra_nil)))))
   (rss_one (rs_ret (re_make T.mk_Program (ok_q4 T TB) (hr.mono (by omega)) (by rfl) T.g_Program T.t_q4.b tk (ra_cons (re_bin og_add (re_lc (own:=[("one",10)]) rfl nd (ri_seq (re_var 2)) (blkOk_by (own:=[("one",10)]) (N:=["program", "edit", "found", "names", "at", "word", "name", "made", "more", "definition", "one"]) (sc:=defScope (topS 19)) (by decide +kernel)) (fun _ _ _ _ _ => (rg_name 10 nd rfl (by first | exact .inl rfl | exact .inr rfl))) (fun _ _ _ _ _ => rts_nil) (fun _ _ _ _ _ => (re_if (rt_cmp (og_eq hu64) (re_ix (re_var 10) re_int) (re_var 6)) (re_var 7) (re_var 10))) (by decide)) (re_bin og_mulL (re_lst (ra_cons (re_var 7) ra_nil)) (re_callTy cr_int (by rfl) T.n_int (by decide +kernel) (ra_cons (re_cmp (og_notIn hu65) (re_var 6) (re_var 3)) ra_nil)))) ra_nil) (aC_len aN_len))))) rss_nil)
   (rss_cons (rs_if (rt_cmp (og_notIn hu65) (re_var 6) (re_var 3)) (rss_one (rs_raise T.x_NoPlace T.i_init (fn_init T.t_einit T.sc_einit T.bo_einit (k:=0)) (hr.mono (by omega)) T.b_einit (by rfl) rfl tk (re_tup (ra_cons (re_var 6) (ra_cons (re_if (rt_cmp (og_eq hu64) (re_var 5) re_str) re_non (re_ix (re_var 8) re_int)) ra_nil))))) rss_nil)
   (rss_cons (rs_if (rt_cmp (og_eq hu64) (re_var 5) re_str) (rss_one (rs_ret (re_make T.mk_Program (ok_q4 T TB) (hr.mono (by omega)) (by rfl) T.g_Program T.t_q4.b tk (ra_cons (re_lc (own:=[("one",10)]) rfl nd (ri_seq (re_var 2)) (blkOk_by (own:=[("one",10)]) (N:=["program", "edit", "found", "names", "at", "word", "name", "made", "more", "definition", "one"]) (sc:=defScope (topS 19)) (by decide +kernel)) (fun _ _ _ _ _ => (rg_name 10 nd rfl (by first | exact .inl rfl | exact .inr rfl))) (fun _ _ _ _ _ => (rts_one (rt_cmp (og_ne hu64) (re_ix (re_var 10) re_int) (re_var 6)))) (fun _ _ _ _ _ => (re_var 10)) (by decide)) ra_nil) (aC_len aN_len)))) rss_nil)
   (rss_cons (rs_set 4 nd rfl (by first | exact .inl rfl | exact .inr rfl) (re_bm PySem.F.plainAttrs_list PySem.F.slot_list_index PySem.F.type_list_index om_lindex (re_var 3) (ra_cons (re_var 6) ra_nil)))
   (rss_cons (rs_sub (re_tup (ra_cons (re_var 6) (ra_cons (re_ix (re_ix (re_var 2) (re_var 4)) re_int) (ra_cons (re_call (ok_q7 T TB) (hr.mono (by omega)) (by rfl) T.t_q7.g T.t_q7.F.kp T.t_q7.b tk (ra_cons (re_ix (re_ix (re_var 2) (re_var 4)) re_int) (ra_cons (re_var 1) ra_nil)) (aC_len (aC_len aN_len))) ra_nil)))) (re_var 2) (re_var 4))
   (rss_one (rs_ret (re_make T.mk_Program (ok_q4 T TB) (hr.mono (by omega)) (by rfl) T.g_Program T.t_q4.b tk (ra_cons (re_var 2) ra_nil) (aC_len aN_len))))))))))))
theorem ok_q17 (T:Tx K mg w) (TB:LamX.TabB base mg T.cT T.pT):FnOk P w K mg base (L2.CX P w) 1 T.t_q17.a T.t_q17.d ["_law_script"] (spD P w K mg 1 m_q17):=fn_body (k:=0) T.t_q17.F sc_q17 rfl fun cdv A outer s H Q E hr => by
  have nd:=sc_q17.nd
  have hu1:=hu_of hr
  have hu64:=hr.units
  have hu65:=hu65_of hr
  have tk:=takes_of (X:=cxOf (L2.CX P w) P w K mg base ["_law_script", "_law_fold", "_law_great_here", "_law_cell", "_law_much"] "_law_tray" (defScope (topS 21)) T.t_q17.a cdv A outer s H E) (E:=E) rfl rfl rfl rfl
  exact (rss_cons (rs_set 1 nd rfl (by first | exact .inl rfl | exact .inr rfl) re_int)
   (rss_cons (rs_set 2 nd rfl (by first | exact .inl rfl | exact .inr rfl) (re_lst ra_nil))
   (rss_cons (rs_for (passes_of rfl) rfl (ri_seq (re_var 0)) (rg_name 3 nd rfl (by first | exact .inl rfl | exact .inr rfl)) (rss_cons (rs_set 1 nd rfl (by first | exact .inl rfl | exact .inr rfl) (re_bin og_mod (re_bin og_add (re_bin og_mul (re_var 1) re_int) (re_var 3)) (re_bin og_sub (re_bin og_pow re_int re_int) re_int)))
   (rss_cons (rs_set 4 nd rfl (by first | exact .inl rfl | exact .inr rfl) (re_callB (cr_max2P rfl) (by rfl) T.n_max (by decide +kernel) (ra_cons (re_var 3) (ra_cons (re_bin og_sub re_int (re_var 3)) ra_nil))))
   (rss_one (rs_if (rt_cmp og_ge (re_var 4) (re_bin og_pow re_int re_int)) (rss_one (rs_expr (re_bm PySem.F.plainAttrs_list PySem.F.slot_list_append PySem.F.type_list_append om_append (re_var 2) (ra_cons (re_bin og_sub (re_var 4) (re_bin og_pow re_int re_int)) ra_nil)))) rss_nil)))))
   (rss_one (rs_ret (re_lst (ra_cons (re_var 2) (ra_cons re_int (ra_cons (re_var 1) (ra_cons re_int ra_nil))))))))))
theorem ok_q20 (T:Tx K mg w) (TB:LamX.TabB base mg T.cT T.pT):FnOk P w K mg base (L2.CX P w) 1 T.t_q20.a T.t_q20.d ["_law_tray_here", "_law_many"] (spD P w K mg 2 m_q20):=fn_body (k:=0) T.t_q20.F sc_q20 rfl fun cdv A outer s H Q E hr => by
  have nd:=sc_q20.nd
  have hu1:=hu_of hr
  have hu64:=hr.units
  have hu65:=hu65_of hr
  have tk:=takes_of (X:=cxOf (L2.CX P w) P w K mg base ["_law_tray_here", "_law_many", "_law_mixed", "_law_found"] "_law_draw" (defScope (topS 22)) T.t_q20.a cdv A outer s H E) (E:=E) rfl rfl rfl rfl
  exact (rss_cons (rs_while (passes_of rfl) (rt_of (rw_and (rt_cmp og_lt (re_ix (re_var 0) re_int) re_int) (rw_and1 (rt_cmp (og_ne hu64) (re_ix (re_var 0) re_int) (re_lst ra_nil))))) (rss_one (rs_sub (re_bm PySem.F.plainAttrs_list PySem.F.slot_list_pop PySem.F.type_list_pop om_pop (re_ix (re_var 0) re_int) (ra_cons re_int ra_nil)) (re_var 0) re_int)))
   (rss_cons (rs_if (rt_cmp og_ge (re_ix (re_var 0) re_int) re_int) (rss_cons (rs_set 3 nd rfl (by first | exact .inl rfl | exact .inr rfl) (re_bin og_mod (re_ix (re_var 0) re_int) (re_var 1)))
   (rss_cons (rs_sub (re_bin og_fdiv (re_ix (re_var 0) re_int) (re_var 1)) (re_var 0) re_int)
   (rss_one (rs_ret (re_var 3))))) rss_nil)
   (rss_cons (rs_sub (re_bin og_add (re_ix (re_var 0) re_int) re_int) (re_var 0) re_int)
   (rss_cons (rs_set 2 nd rfl (by first | exact .inl rfl | exact .inr rfl) (re_bin og_mod (re_bin og_add (re_bin og_mul (re_bin og_add (re_ix (re_var 0) re_int) re_int) (re_bin og_pow (re_bin og_add (re_ix (re_var 0) re_int) re_int) re_int)) (re_bin og_mul re_int (re_ix (re_var 0) re_int))) (re_bin og_sub (re_bin og_pow re_int re_int) re_int)))
   (rss_one (rs_ret (re_bin og_mod (re_bin og_fdiv (re_bin og_mod (re_bin og_pow (re_var 2) re_int) (re_bin og_add (re_bin og_pow re_int re_int) re_int)) re_int) (re_var 1))))))))
theorem ok_q15 (T:Tx K mg w) (TB:LamX.TabB base mg T.cT T.pT):FnOk P w K mg base (L2.CX P w) 2 T.t_q15.a T.t_q15.d ["_law_tray_here"] (spD P w K mg 1 m_q15):=fn_body (k:=1) T.t_q15.F sc_q15 rfl fun cdv A outer s H Q E hr => by
  have nd:=sc_q15.nd
  have hu1:=hu_of hr
  have hu64:=hr.units
  have hu65:=hu65_of hr
  have tk:=takes_of (X:=cxOf (L2.CX P w) P w K mg base ["_law_tray_here", "_law_found", "_law_k"] "_law_great" (defScope (topS 23)) T.t_q15.a cdv A outer s H E) (E:=E) rfl rfl rfl rfl
  exact (rss_cons (rs_set 1 nd rfl (by first | exact .inl rfl | exact .inr rfl) (re_call (ok_q20 T TB) (hr.mono (by omega)) (by rfl) T.t_q20.g T.t_q20.F.kp T.t_q20.b tk (ra_cons (re_var 0) (ra_cons (re_bin og_pow re_int re_int) ra_nil)) (aC_len (aC_len aN_len))))
   (rss_cons (rs_for (passes_of rfl) rfl (ri_range1 (by rfl) T.n_range re_int) (rg_name 2 nd rfl (by first | exact .inl rfl | exact .inr rfl)) (rss_one (rs_set 1 nd rfl (by first | exact .inl rfl | exact .inr rfl) (re_bin og_add (re_bin og_mul (re_var 1) (re_bin og_pow re_int re_int)) (re_call (ok_q20 T TB) (hr.mono (by omega)) (by rfl) T.t_q20.g T.t_q20.F.kp T.t_q20.b tk (ra_cons (re_var 0) (ra_cons (re_bin og_pow re_int re_int) ra_nil)) (aC_len (aC_len aN_len)))))))
   (rss_one (rs_ret (re_var 1)))))
theorem ok_q11 (T:Tx K mg w) (TB:LamX.TabB base mg T.cT T.pT):∀ d:Nat,FnOk P w K mg base (L2.CX P w) (1 + d) T.t_q11.a T.t_q11.d ["_law_found", "_law_due"] (spD P w K mg 2 (m_q11 d))
 | 0 => fn_bad
 | d + 1 => by
  have ih__law_alike:=ok_q11 T TB d
  exact fn_body (k:=1 + d) T.t_q11.F sc_q11 rfl fun cdv A outer s H Q E hr => by
    have nd:=sc_q11.nd
    have hu1:=hu_of hr
    have hu64:=hr.units
    have hu65:=hu65_of hr
    have tk:=takes_of (X:=cxOf (L2.CX P w) P w K mg base ["_law_found", "_law_due", "_law_k"] "_law_alike" (defScope (topS 24)) T.t_q11.a cdv A outer s H E) (E:=E) rfl rfl rfl rfl
    exact (rss_cons (rs_if (rt_isN (re_var 1)) (rss_one (rs_ret (re_isN (re_var 0)))) rss_nil)
     (rss_cons (rs_if (rt_tru (re_isi (by rfl) T.n_isinstance (by rfl) T.n_bool (by decide +kernel) (re_var 1))) (rss_one (rs_ret (re_and (re_isi (by rfl) T.n_isinstance (by rfl) T.n_bool (by decide +kernel) (re_var 0)) (re_one (re_cmp (og_eq hu64) (re_var 0) (re_var 1)))))) rss_nil)
     (rss_cons (rs_if (rt_tru (re_isi (by rfl) T.n_isinstance (by rfl) T.n_int (by decide +kernel) (re_var 1))) (rss_one (rs_ret (re_and (re_isi (by rfl) T.n_isinstance (by rfl) T.n_int (by decide +kernel) (re_var 0)) (re_and (re_not (re_isi (by rfl) T.n_isinstance (by rfl) T.n_bool (by decide +kernel) (re_var 0))) (re_one (re_cmp (og_eq hu64) (re_var 0) (re_var 1))))))) rss_nil)
     (rss_cons (rs_if (rt_tru (re_isi (by rfl) T.n_isinstance (by rfl) T.n_str (by decide +kernel) (re_var 1))) (rss_one (rs_ret (re_and (re_isi (by rfl) T.n_isinstance (by rfl) T.n_str (by decide +kernel) (re_var 0)) (re_one (re_cmp (og_eq hu64) (re_var 0) (re_var 1)))))) rss_nil)
     (rss_cons (rs_if (rt_of (rw_or (rt_cmp (og_ne hu64) (re_isi (by rfl) T.n_isinstance (by rfl) T.n_list (by decide +kernel) (re_var 0)) (re_isi (by rfl) T.n_isinstance (by rfl) T.n_list (by decide +kernel) (re_var 1))) (rw_or1 (rt_cmp (og_ne hu64) (re_isi (by rfl) T.n_isinstance (by rfl) T.n_tuple (by decide +kernel) (re_var 0)) (re_isi (by rfl) T.n_isinstance (by rfl) T.n_tuple (by decide +kernel) (re_var 1)))))) (rss_one (rs_ret re_bl)) rss_nil)
     (rss_cons (rs_if (rt_cmp (og_ne hu64) (re_callB cr_len (by rfl) T.n_len (by decide +kernel) (ra_cons (re_var 0) ra_nil)) (re_callB cr_len (by rfl) T.n_len (by decide +kernel) (ra_cons (re_var 1) ra_nil))) (rss_one (rs_ret re_bl)) rss_nil)
     (rss_cons (rs_for (passes_of rfl) rfl (ri_range1 (by rfl) T.n_range (re_callB cr_len (by rfl) T.n_len (by decide +kernel) (ra_cons (re_var 1) ra_nil))) (rg_name 2 nd rfl (by first | exact .inl rfl | exact .inr rfl)) (rss_one (rs_if (rt_not (rt_tru (re_call ih__law_alike (hr.mono (by omega)) (by rfl) T.t_q11.g T.t_q11.F.kp T.t_q11.b tk (ra_cons (re_ix (re_var 0) (re_var 2)) (ra_cons (re_ix (re_var 1) (re_var 2)) ra_nil)) (aC_len (aC_len aN_len))))) (rss_one (rs_ret re_bl)) rss_nil)))
     (rss_one (rs_ret re_bl)))))))))
theorem ok_q22 (T:Tx K mg w) (TB:LamX.TabB base mg T.cT T.pT):FnOk P w K mg base (L2.CX P w) 2 T.t_q22.a T.t_q22.d ["_law_tray_here", "_law_used"] (spD P w K mg 2 m_q22):=fn_body (k:=1) T.t_q22.F sc_q22 rfl fun cdv A outer s H Q E hr => by
  have nd:=sc_q22.nd
  have hu1:=hu_of hr
  have hu64:=hr.units
  have hu65:=hu65_of hr
  have tk:=takes_of (X:=cxOf (L2.CX P w) P w K mg base ["_law_tray_here", "_law_used", "_law_letters", "_law_lot", "_law_letter", "_law_name_here", "_law_some", "_law_bars", "_law_words", "_law_old", "_law_at", "_law_k", "_law_one"] "_law_name" (defScope (topS 25)) T.t_q22.a cdv A outer s H E) (E:=E) rfl rfl rfl rfl
  exact (rss_cons (rs_set 2 nd rfl (by first | exact .inl rfl | exact .inr rfl) re_str)
   (rss_cons (rs_set 3 nd rfl (by first | exact .inl rfl | exact .inr rfl) (re_call (ok_q20 T TB) (hr.mono (by omega)) (by rfl) T.t_q20.g T.t_q20.F.kp T.t_q20.b tk (ra_cons (re_var 0) (ra_cons re_int ra_nil)) (aC_len (aC_len aN_len))))
   (rss_cons (rs_set 4 nd rfl (by first | exact .inl rfl | exact .inr rfl) (re_ix (re_var 2) (re_call (ok_q20 T TB) (hr.mono (by omega)) (by rfl) T.t_q20.g T.t_q20.F.kp T.t_q20.b tk (ra_cons (re_var 0) (ra_cons re_int ra_nil)) (aC_len (aC_len aN_len)))))
   (rss_cons (rs_set 5 nd rfl (by first | exact .inl rfl | exact .inr rfl) (re_bm PySem.F.plainAttrs_str PySem.F.slot_str_join PySem.F.type_str_join om_join re_str (ra_cons (re_lc (own:=[("_law_k",11)]) rfl nd (ri_range1 (by rfl) T.n_range (re_bin og_add re_int (re_call (ok_q20 T TB) (hr.mono (by omega)) (by rfl) T.t_q20.g T.t_q20.F.kp T.t_q20.b tk (ra_cons (re_var 0) (ra_cons re_int ra_nil)) (aC_len (aC_len aN_len))))) (blkOk_by (own:=[("_law_k",11)]) (N:=["_law_tray_here", "_law_used", "_law_letters", "_law_lot", "_law_letter", "_law_name_here", "_law_some", "_law_bars", "_law_words", "_law_old", "_law_at", "_law_k", "_law_one"]) (sc:=defScope (topS 25)) (by decide +kernel)) (fun _ _ _ _ _ => (rg_name 11 nd rfl (by first | exact .inl rfl | exact .inr rfl))) (fun _ _ _ _ _ => rts_nil) (fun _ _ _ _ _ => (re_ix (re_var 2) (re_call (ok_q20 T TB) (hr.mono (by omega)) (by rfl) T.t_q20.g T.t_q20.F.kp T.t_q20.b takes0 (ra_cons (re_var 0) (ra_cons re_int ra_nil)) (aC_len (aC_len aN_len))))) (by decide)) ra_nil)))
   (rss_cons (rs_if (rt_cmp (og_eq hu64) (re_var 3) re_int) (rss_cons (rs_set 8 nd rfl (by first | exact .inl rfl | exact .inr rfl) (re_lst (ra_cons re_str (ra_cons re_str (ra_cons re_str (ra_cons re_str (ra_cons re_str (ra_cons re_str (ra_cons re_str (ra_cons re_str (ra_cons re_str (ra_cons re_str (ra_cons re_str (ra_cons re_str ra_nil))))))))))))))
   (rss_one (rs_set 5 nd rfl (by first | exact .inl rfl | exact .inr rfl) (re_ix (re_var 8) (re_call (ok_q20 T TB) (hr.mono (by omega)) (by rfl) T.t_q20.g T.t_q20.F.kp T.t_q20.b tk (ra_cons (re_var 0) (ra_cons re_int ra_nil)) (aC_len (aC_len aN_len))))))) (rss_one (rs_if (rt_of (rw_and (rt_cmp og_gt (re_var 3) re_int) (rw_and1 (rt_cmp (og_ne hu64) (re_var 1) (re_lst ra_nil))))) (rss_cons (rs_set 9 nd rfl (by first | exact .inl rfl | exact .inr rfl) (re_ix (re_var 1) (re_call (ok_q20 T TB) (hr.mono (by omega)) (by rfl) T.t_q20.g T.t_q20.F.kp T.t_q20.b tk (ra_cons (re_var 0) (ra_cons (re_callB cr_len (by rfl) T.n_len (by decide +kernel) (ra_cons (re_var 1) ra_nil)) ra_nil)) (aC_len (aC_len aN_len)))))
   (rss_cons (rs_set 10 nd rfl (by first | exact .inl rfl | exact .inr rfl) (re_call (ok_q20 T TB) (hr.mono (by omega)) (by rfl) T.t_q20.g T.t_q20.F.kp T.t_q20.b tk (ra_cons (re_var 0) (ra_cons (re_bin og_add (re_callB cr_len (by rfl) T.n_len (by decide +kernel) (ra_cons (re_var 9) ra_nil)) re_int) ra_nil)) (aC_len (aC_len aN_len))))
   (rss_one (rs_set 5 nd rfl (by first | exact .inl rfl | exact .inr rfl) (re_slice (re_bin og_add (re_bin og_add (re_slice (re_var 9) ro_none (ro_some (re_var 10))) (re_ix (re_lst (ra_cons (re_var 4) (ra_cons (re_var 4) (ra_cons re_str ra_nil)))) (re_bin og_sub (re_var 3) re_int))) (re_slice (re_var 9) (ro_some (re_bin og_add (re_var 10) (re_ix (re_lst (ra_cons re_int (ra_cons re_int (ra_cons re_int ra_nil)))) (re_bin og_sub (re_var 3) re_int)))) ro_none)) ro_none (ro_some re_int)))))) rss_nil)))
   (rss_cons (rs_set 6 nd rfl (by first | exact .inl rfl | exact .inr rfl) (re_bin og_add (re_bin og_add (re_bin og_add (re_lst (ra_cons (re_var 5) ra_nil)) (re_lc (own:=[("_law_one",12)]) rfl nd (ri_seq (re_var 2)) (blkOk_by (own:=[("_law_one",12)]) (N:=["_law_tray_here", "_law_used", "_law_letters", "_law_lot", "_law_letter", "_law_name_here", "_law_some", "_law_bars", "_law_words", "_law_old", "_law_at", "_law_k", "_law_one"]) (sc:=defScope (topS 25)) (by decide +kernel)) (fun _ _ _ _ _ => (rg_name 12 nd rfl (by first | exact .inl rfl | exact .inr rfl))) (fun _ _ _ _ _ => rts_nil) (fun _ _ _ _ _ => (re_var 12)) (by decide))) (re_lc (own:=[("_law_one",12)]) rfl nd (ri_seq (re_var 2)) (blkOk_by (own:=[("_law_one",12)]) (N:=["_law_tray_here", "_law_used", "_law_letters", "_law_lot", "_law_letter", "_law_name_here", "_law_some", "_law_bars", "_law_words", "_law_old", "_law_at", "_law_k", "_law_one"]) (sc:=defScope (topS 25)) (by decide +kernel)) (fun _ _ _ _ _ => (rg_name 12 nd rfl (by first | exact .inl rfl | exact .inr rfl))) (fun _ _ _ _ _ => rts_nil) (fun _ _ _ _ _ => (re_bin og_mul (re_var 12) re_int)) (by decide))) (re_lc (own:=[("_law_one",12)]) rfl nd (ri_seq (re_var 2)) (blkOk_by (own:=[("_law_one",12)]) (N:=["_law_tray_here", "_law_used", "_law_letters", "_law_lot", "_law_letter", "_law_name_here", "_law_some", "_law_bars", "_law_words", "_law_old", "_law_at", "_law_k", "_law_one"]) (sc:=defScope (topS 25)) (by decide +kernel)) (fun _ _ _ _ _ => (rg_name 12 nd rfl (by first | exact .inl rfl | exact .inr rfl))) (fun _ _ _ _ _ => rts_nil) (fun _ _ _ _ _ => (re_bin og_mul (re_var 12) re_int)) (by decide))))
   (rss_cons (rs_set 7 nd rfl (by first | exact .inl rfl | exact .inr rfl) (re_lst (ra_cons re_str (ra_cons re_str (ra_cons re_str (ra_cons re_str (ra_cons re_str (ra_cons re_str (ra_cons re_str (ra_cons re_str (ra_cons re_str (ra_cons re_str (ra_cons re_str ra_nil)))))))))))))
   (rss_one (rs_ret (re_ix (re_lc (own:=[("_law_one",12)]) rfl nd (ri_seq (re_var 6)) (blkOk_by (own:=[("_law_one",12)]) (N:=["_law_tray_here", "_law_used", "_law_letters", "_law_lot", "_law_letter", "_law_name_here", "_law_some", "_law_bars", "_law_words", "_law_old", "_law_at", "_law_k", "_law_one"]) (sc:=defScope (topS 25)) (by decide +kernel)) (fun _ _ _ _ _ => (rg_name 12 nd rfl (by first | exact .inl rfl | exact .inr rfl))) (fun _ _ _ _ _ => (rts_one (rt_cmp (og_notIn hu65) (re_var 12) (re_bin og_add (re_var 1) (re_var 7))))) (fun _ _ _ _ _ => (re_var 12)) (by decide)) re_int))))))))))
theorem ok_q8 (T:Tx K mg w) (TB:LamX.TabB base mg T.cT T.pT):FnOk P w K mg base (L2.CX P w) 3 T.t_q8.a T.t_q8.d ["_law_tray_here", "_law_many", "_law_used"] (spD P w K mg 3 m_q8):=fn_body (k:=2) T.t_q8.F sc_q8 rfl fun cdv A outer s H Q E hr => by
  have nd:=sc_q8.nd
  have hu1:=hu_of hr
  have hu64:=hr.units
  have hu65:=hu65_of hr
  have tk:=takes_of (X:=cxOf (L2.CX P w) P w K mg base ["_law_tray_here", "_law_many", "_law_used", "_law_found", "_law_k"] "_law_names" (defScope (topS 26)) T.t_q8.a cdv A outer s H E) (E:=E) rfl rfl rfl rfl
  exact (rss_cons (rs_set 3 nd rfl (by first | exact .inl rfl | exact .inr rfl) (re_lst ra_nil))
   (rss_cons (rs_for (passes_of rfl) rfl (ri_range1 (by rfl) T.n_range (re_var 1)) (rg_name 4 nd rfl (by first | exact .inl rfl | exact .inr rfl)) (rss_one (rs_expr (re_bm PySem.F.plainAttrs_list PySem.F.slot_list_append PySem.F.type_list_append om_append (re_var 3) (ra_cons (re_call (ok_q22 T TB) (hr.mono (by omega)) (by rfl) T.t_q22.g T.t_q22.F.kp T.t_q22.b tk (ra_cons (re_var 0) (ra_cons (re_bin og_add (re_var 2) (re_var 3)) ra_nil)) (aC_len (aC_len aN_len))) ra_nil)))))
   (rss_one (rs_ret (re_var 3)))))
theorem ok_q10 (T:Tx K mg w) (TB:LamX.TabB base mg T.cT T.pT):FnOk P w K mg base (L2.CX P w) 3 T.t_q10.a T.t_q10.d ["_law_tray_here"] (spD P w K mg 1 m_q10):=fn_body (k:=2) T.t_q10.F sc_q10 rfl fun cdv A outer s H Q E hr => by
  have nd:=sc_q10.nd
  have hu1:=hu_of hr
  have hu64:=hr.units
  have hu65:=hu65_of hr
  have tk:=takes_of (X:=cxOf (L2.CX P w) P w K mg base ["_law_tray_here"] "_law_whole" (defScope (topS 27)) T.t_q10.a cdv A outer s H E) (E:=E) rfl rfl rfl rfl
  exact (rss_cons (rs_if (rt_cmp (og_eq hu64) (re_call (ok_q20 T TB) (hr.mono (by omega)) (by rfl) T.t_q20.g T.t_q20.F.kp T.t_q20.b tk (ra_cons (re_var 0) (ra_cons re_int ra_nil)) (aC_len (aC_len aN_len))) re_int) (rss_one (rs_ret (re_bin og_mul (re_bin og_add (re_bin og_mul (re_call (ok_q15 T TB) (hr.mono (by omega)) (by rfl) T.t_q15.g T.t_q15.F.kp T.t_q15.b tk (ra_cons (re_var 0) ra_nil) (aC_len aN_len)) re_int) (re_call (ok_q20 T TB) (hr.mono (by omega)) (by rfl) T.t_q20.g T.t_q20.F.kp T.t_q20.b tk (ra_cons (re_var 0) (ra_cons re_int ra_nil)) (aC_len (aC_len aN_len)))) (re_bin og_sub re_int (re_bin og_mul re_int (re_call (ok_q20 T TB) (hr.mono (by omega)) (by rfl) T.t_q20.g T.t_q20.F.kp T.t_q20.b tk (ra_cons (re_var 0) (ra_cons re_int ra_nil)) (aC_len (aC_len aN_len)))))))) rss_nil)
   (rss_one (rs_ret (re_ix (re_lst (ra_cons re_int (ra_cons re_int (ra_cons re_int (ra_cons re_int (ra_cons re_int (ra_cons (re_neg re_int) (ra_cons (re_neg re_int) (ra_cons re_int ra_nil))))))))) (re_call (ok_q20 T TB) (hr.mono (by omega)) (by rfl) T.t_q20.g T.t_q20.F.kp T.t_q20.b tk (ra_cons (re_var 0) (ra_cons re_int ra_nil)) (aC_len (aC_len aN_len)))))))
theorem ok_q13 (T:Tx K mg w) (TB:LamX.TabB base mg T.cT T.pT):FnOk P w K mg base (L2.CX P w) 4 T.t_q13.a T.t_q13.d ["_law_tray_here", "_law_own", "_law_heads"] (spD P w K mg 3 m_q13):=fn_body (k:=3) T.t_q13.F sc_q13 rfl fun cdv A outer s H Q E hr => by
  have nd:=sc_q13.nd
  have hu1:=hu_of hr
  have hu64:=hr.units
  have hu65:=hu65_of hr
  have tk:=takes_of (X:=cxOf (L2.CX P w) P w K mg base ["_law_tray_here", "_law_own", "_law_heads", "_law_lot", "_law_some", "_law_value_here", "_law_k", "_law_name_here", "_law_parameters"] "_law_value" (defScope (topS 28)) T.t_q13.a cdv A outer s H E) (E:=E) rfl rfl rfl rfl
  exact (rss_cons (rs_set 3 nd rfl (by first | exact .inl rfl | exact .inr rfl) (re_call (ok_q20 T TB) (hr.mono (by omega)) (by rfl) T.t_q20.g T.t_q20.F.kp T.t_q20.b tk (ra_cons (re_var 0) (ra_cons re_int ra_nil)) (aC_len (aC_len aN_len))))
   (rss_cons (rs_setLc 4 (own:=[("_law_k",6)]) rfl nd rfl rfl (sw_true rfl rfl rfl (by decide +kernel)) (ri_range1 (by rfl) T.n_range re_int) (blkOk_by (own:=[("_law_k",6)]) (N:=["_law_tray_here", "_law_own", "_law_heads", "_law_lot", "_law_some", "_law_value_here", "_law_k", "_law_name_here", "_law_parameters"]) (sc:=defScope (topS 28)) (by decide +kernel)) (fun _ _ _ _ _ => (rg_name 6 nd rfl (by first | exact .inl rfl | exact .inr rfl))) (fun _ _ _ _ _ => rts_nil) (fun _ _ _ _ _ => (re_ix (re_var 1) (re_call (ok_q20 T TB) (hr.mono (by omega)) (by rfl) T.t_q20.g T.t_q20.F.kp T.t_q20.b takes0 (ra_cons (re_var 0) (ra_cons (re_callB cr_len (by rfl) T.n_len (by decide +kernel) (ra_cons (re_var 1) ra_nil)) ra_nil)) (aC_len (aC_len aN_len))))) (by decide))
   (rss_cons (rs_if (rt_cmp og_gt (re_var 3) re_int) (rss_cons (rs_asg (re_ix (re_var 2) (re_call (ok_q20 T TB) (hr.mono (by omega)) (by rfl) T.t_q20.g T.t_q20.F.kp T.t_q20.b tk (ra_cons (re_var 0) (ra_cons (re_callB cr_len (by rfl) T.n_len (by decide +kernel) (ra_cons (re_var 2) ra_nil)) ra_nil)) (aC_len (aC_len aN_len)))) (rg_tup rfl (rgs_cons (rg_name 7 nd rfl (by first | exact .inl rfl | exact .inr rfl)) (rgs_cons (rg_name 8 nd rfl (by first | exact .inl rfl | exact .inr rfl)) rgs_nil))))
   (rss_one (rs_ret (re_tup (ra_cons re_str (ra_cons (re_var 7) (ra_cons (re_callTy cr_tuple (by rfl) T.n_tuple (by decide +kernel) (ra_cons (re_slice (re_var 4) ro_none (ro_some (re_callB cr_len (by rfl) T.n_len (by decide +kernel) (ra_cons (re_var 8) ra_nil)))) ra_nil)) ra_nil))))))) rss_nil)
   (rss_cons (rs_set 5 nd rfl (by first | exact .inl rfl | exact .inr rfl) (re_lst (ra_cons (re_tup (ra_cons re_str (ra_cons (re_call (ok_q10 T TB) (hr.mono (by omega)) (by rfl) T.t_q10.g T.t_q10.F.kp T.t_q10.b tk (ra_cons (re_var 0) ra_nil) (aC_len aN_len)) ra_nil))) (ra_cons (re_tup (ra_cons re_str (ra_cons (re_ix (re_var 4) re_int) ra_nil))) (ra_cons (re_tup (ra_cons re_str (ra_cons (re_ix (re_var 4) re_int) (ra_cons (re_ix (re_var 4) re_int) ra_nil)))) (ra_cons (re_tup (ra_cons re_str ra_nil)) (ra_cons (re_tup (ra_cons re_str (ra_cons (re_ix (re_var 4) re_int) ra_nil))) ra_nil)))))))
   (rss_one (rs_ret (re_ix (re_bin og_add (re_var 5) (re_lst (ra_cons (re_tup (ra_cons re_str ra_nil)) ra_nil))) (re_var 3))))))))
theorem okg_q25 (T:Tx K mg w) (TB:LamX.TabB base mg T.cT T.pT):∀ d:Nat,FnOk P w K mg base (L2.CX P w) (5 + d) T.t_q25.a T.t_q25.d ["_law_tray_here", "_law_own", "_law_heads", "_law_left", "_law_deep"] (spD P w K mg 5 (m_q25 d)) ∧
  FnOk P w K mg base (L2.CX P w) (5 + d) T.t_q18.a T.t_q18.d ["_law_tray_here", "_law_own", "_law_heads", "_law_left", "_law_deep"] (spD P w K mg 5 (m_q18 d))
 | 0 => ⟨fn_bad,fn_bad⟩
 | d + 1 => by
  obtain ⟨ih__law_row,ih__law_rows⟩:=okg_q25 T TB d
  refine ⟨?_,?_⟩
  ·exact fn_body (k:=5 + d) T.t_q25.F sc_q25 rfl fun cdv A outer s H Q E hr => by
     have nd:=sc_q25.nd
     have hu1:=hu_of hr
     have hu64:=hr.units
     have hu65:=hu65_of hr
     have tk:=takes_of (X:=cxOf (L2.CX P w) P w K mg base ["_law_tray_here", "_law_own", "_law_heads", "_law_left", "_law_deep", "_law_lot", "_law_name_here", "_law_ones"] "_law_row" (defScope (topS 29)) T.t_q25.a cdv A outer s H E) (E:=E) rfl rfl rfl rfl
     exact (rss_cons (rs_sub (re_bin og_sub (re_ix (re_var 3) re_int) re_int) (re_var 3) re_int)
      (rss_cons (rs_set 5 nd rfl (by first | exact .inl rfl | exact .inr rfl) (re_call (ok_q20 T TB) (hr.mono (by omega)) (by rfl) T.t_q20.g T.t_q20.F.kp T.t_q20.b tk (ra_cons (re_var 0) (ra_cons re_int ra_nil)) (aC_len (aC_len aN_len))))
      (rss_cons (rs_set 6 nd rfl (by first | exact .inl rfl | exact .inr rfl) (re_ix (re_var 1) (re_call (ok_q20 T TB) (hr.mono (by omega)) (by rfl) T.t_q20.g T.t_q20.F.kp T.t_q20.b tk (ra_cons (re_var 0) (ra_cons (re_callB cr_len (by rfl) T.n_len (by decide +kernel) (ra_cons (re_var 1) ra_nil)) ra_nil)) (aC_len (aC_len aN_len)))))
      (rss_cons (rs_if (rt_of (rw_and (rt_cmp og_gt (re_var 5) re_int) (rw_and1 (rt_cmp og_gt (re_var 4) re_int)))) (rss_cons (rs_set 7 nd rfl (by first | exact .inl rfl | exact .inr rfl) (re_call ih__law_rows (hr.mono (by omega)) (by rfl) T.t_q18.g T.t_q18.F.kp T.t_q18.b tk (ra_cons (re_var 0) (ra_cons (re_var 1) (ra_cons (re_var 2) (ra_cons (re_var 3) (ra_cons (re_bin og_sub (re_var 4) re_int) ra_nil))))) (aC_len (aC_len (aC_len (aC_len (aC_len aN_len)))))))
      (rss_one (rs_ret (re_tup (ra_cons re_str (ra_cons (re_var 6) (ra_cons (re_var 7) (ra_cons (re_call ih__law_rows (hr.mono (by omega)) (by rfl) T.t_q18.g T.t_q18.F.kp T.t_q18.b tk (ra_cons (re_var 0) (ra_cons (re_var 1) (ra_cons (re_var 2) (ra_cons (re_var 3) (ra_cons (re_bin og_sub (re_var 4) re_int) ra_nil))))) (aC_len (aC_len (aC_len (aC_len (aC_len aN_len)))))) ra_nil)))))))) rss_nil)
      (rss_cons (rs_if (rt_cmp og_lt (re_var 5) re_int) (rss_one (rs_ret (re_tup (ra_cons re_str (ra_cons (re_var 6) (ra_cons (re_call (ok_q13 T TB) (hr.mono (by omega)) (by rfl) T.t_q13.g T.t_q13.F.kp T.t_q13.b tk (ra_cons (re_var 0) (ra_cons (re_var 1) (ra_cons (re_var 2) ra_nil))) (aC_len (aC_len (aC_len aN_len)))) ra_nil)))))) rss_nil)
      (rss_one (rs_ret (re_tup (ra_cons (re_ix (re_lst (ra_cons re_str (ra_cons re_str (ra_cons re_str (ra_cons re_str ra_nil))))) (re_callB (cr_min2P rfl) (by rfl) T.n_min (by decide +kernel) (ra_cons re_int (ra_cons (re_bin og_sub (re_var 5) re_int) ra_nil)))) (ra_cons (re_var 6) ra_nil))))))))))
  ·exact fn_body (k:=5 + d) T.t_q18.F sc_q18 rfl fun cdv A outer s H Q E hr => by
     have nd:=sc_q18.nd
     have hu1:=hu_of hr
     have hu64:=hr.units
     have hu65:=hu65_of hr
     have tk:=takes_of (X:=cxOf (L2.CX P w) P w K mg base ["_law_tray_here", "_law_own", "_law_heads", "_law_left", "_law_deep", "_law_found", "_law_k"] "_law_rows" (defScope (topS 30)) T.t_q18.a cdv A outer s H E) (E:=E) rfl rfl rfl rfl
     exact (rss_cons (rs_set 5 nd rfl (by first | exact .inl rfl | exact .inr rfl) (re_lst ra_nil))
      (rss_cons (rs_for (passes_of rfl) rfl (ri_range1 (by rfl) T.n_range (re_call (ok_q20 T TB) (hr.mono (by omega)) (by rfl) T.t_q20.g T.t_q20.F.kp T.t_q20.b tk (ra_cons (re_var 0) (ra_cons re_int ra_nil)) (aC_len (aC_len aN_len)))) (rg_name 6 nd rfl (by first | exact .inl rfl | exact .inr rfl)) (rss_one (rs_if (rt_cmp og_gt (re_ix (re_var 3) re_int) re_int) (rss_one (rs_expr (re_bm PySem.F.plainAttrs_list PySem.F.slot_list_append PySem.F.type_list_append om_append (re_var 5) (ra_cons (re_call ih__law_row (hr.mono (by omega)) (by rfl) T.t_q25.g T.t_q25.F.kp T.t_q25.b tk (ra_cons (re_var 0) (ra_cons (re_var 1) (ra_cons (re_var 2) (ra_cons (re_var 3) (ra_cons (re_var 4) ra_nil))))) (aC_len (aC_len (aC_len (aC_len (aC_len aN_len)))))) ra_nil)))) rss_nil)))
      (rss_one (rs_ret (re_callTy cr_tuple (by rfl) T.n_tuple (by decide +kernel) (ra_cons (re_var 5) ra_nil))))))
theorem ok_q25 (T:Tx K mg w) (TB:LamX.TabB base mg T.cT T.pT) (d:Nat):FnOk P w K mg base (L2.CX P w) (5 + d) T.t_q25.a T.t_q25.d ["_law_tray_here", "_law_own", "_law_heads", "_law_left", "_law_deep"] (spD P w K mg 5 (m_q25 d)):=(okg_q25 T TB d).1
theorem ok_q18 (T:Tx K mg w) (TB:LamX.TabB base mg T.cT T.pT) (d:Nat):FnOk P w K mg base (L2.CX P w) (5 + d) T.t_q18.a T.t_q18.d ["_law_tray_here", "_law_own", "_law_heads", "_law_left", "_law_deep"] (spD P w K mg 5 (m_q18 d)):=(okg_q25 T TB d).2
theorem ok_q3 (T:Tx K mg w) (TB:LamX.TabB base mg T.cT T.pT):FnOk P w K mg base (L2.CX P w) 14 T.t_q3.a T.t_q3.d ["_law_tray_here", "_law_wide"] (spD P w K mg 2 m_q3):=fn_body (k:=13) T.t_q3.F sc_q3 rfl fun cdv A outer s H Q E hr => by
  have nd:=sc_q3.nd
  have hu1:=hu_of hr
  have hu64:=hr.units
  have hu65:=hu65_of hr
  have tk:=takes_of (X:=cxOf (L2.CX P w) P w K mg base ["_law_tray_here", "_law_wide", "_law_heads", "_law_name_here", "_law_few", "_law_found", "_law_parameters", "_law_own", "_law_left", "_law_rows_here"] "_law_program" (defScope (topS 31)) T.t_q3.a cdv A outer s H E) (E:=E) rfl rfl rfl rfl
  exact (rss_cons (rs_set 2 nd rfl (by first | exact .inl rfl | exact .inr rfl) (re_lst (ra_cons (re_tup (ra_cons re_str (ra_cons (re_tup ra_nil) ra_nil))) ra_nil)))
   (rss_cons (rs_for (passes_of rfl) rfl (ri_seq (re_call (ok_q8 T TB) (hr.mono (by omega)) (by rfl) T.t_q8.g T.t_q8.F.kp T.t_q8.b tk (ra_cons (re_var 0) (ra_cons (re_call (ok_q20 T TB) (hr.mono (by omega)) (by rfl) T.t_q20.g T.t_q20.F.kp T.t_q20.b tk (ra_cons (re_var 0) (ra_cons (re_ix (re_lst (ra_cons re_int (ra_cons re_int ra_nil))) (re_var 1)) ra_nil)) (aC_len (aC_len aN_len))) (ra_cons (re_lst ra_nil) ra_nil))) (aC_len (aC_len (aC_len aN_len))))) (rg_name 3 nd rfl (by first | exact .inl rfl | exact .inr rfl)) (rss_cons (rs_set 6 nd rfl (by first | exact .inl rfl | exact .inr rfl) (re_callTy cr_tuple (by rfl) T.n_tuple (by decide +kernel) (ra_cons (re_call (ok_q8 T TB) (hr.mono (by omega)) (by rfl) T.t_q8.g T.t_q8.F.kp T.t_q8.b tk (ra_cons (re_var 0) (ra_cons (re_call (ok_q20 T TB) (hr.mono (by omega)) (by rfl) T.t_q20.g T.t_q20.F.kp T.t_q20.b tk (ra_cons (re_var 0) (ra_cons (re_ix (re_lst (ra_cons re_int (ra_cons re_int ra_nil))) (re_var 1)) ra_nil)) (aC_len (aC_len aN_len))) (ra_cons (re_lst ra_nil) ra_nil))) (aC_len (aC_len (aC_len aN_len)))) ra_nil)))
   (rss_one (rs_expr (re_bm PySem.F.plainAttrs_list PySem.F.slot_list_insert PySem.F.type_list_insert om_insert (re_var 2) (ra_cons (re_call (ok_q20 T TB) (hr.mono (by omega)) (by rfl) T.t_q20.g T.t_q20.F.kp T.t_q20.b tk (ra_cons (re_var 0) (ra_cons (re_bin og_add (re_callB cr_len (by rfl) T.n_len (by decide +kernel) (ra_cons (re_var 2) ra_nil)) re_int) ra_nil)) (aC_len (aC_len aN_len))) (ra_cons (re_tup (ra_cons (re_var 3) (ra_cons (re_var 6) ra_nil))) ra_nil)))))))
   (rss_cons (rs_set 4 nd rfl (by first | exact .inl rfl | exact .inr rfl) (re_call (ok_q8 T TB) (hr.mono (by omega)) (by rfl) T.t_q8.g T.t_q8.F.kp T.t_q8.b tk (ra_cons (re_var 0) (ra_cons (re_bin og_add re_int (re_call (ok_q20 T TB) (hr.mono (by omega)) (by rfl) T.t_q20.g T.t_q20.F.kp T.t_q20.b tk (ra_cons (re_var 0) (ra_cons re_int ra_nil)) (aC_len (aC_len aN_len)))) (ra_cons (re_lst ra_nil) ra_nil))) (aC_len (aC_len (aC_len aN_len)))))
   (rss_cons (rs_set 5 nd rfl (by first | exact .inl rfl | exact .inr rfl) (re_lst ra_nil))
   (rss_cons (rs_for (passes_of rfl) rfl (ri_seq (re_var 2)) (rg_tup rfl (rgs_cons (rg_name 3 nd rfl (by first | exact .inl rfl | exact .inr rfl)) (rgs_cons (rg_name 6 nd rfl (by first | exact .inl rfl | exact .inr rfl)) rgs_nil))) (rss_cons (rs_set 7 nd rfl (by first | exact .inl rfl | exact .inr rfl) (re_bin og_add (re_var 4) (re_callTy cr_list (by rfl) T.n_list (by decide +kernel) (ra_cons (re_var 6) ra_nil))))
   (rss_cons (rs_set 8 nd rfl (by first | exact .inl rfl | exact .inr rfl) (re_lst (ra_cons (re_ix (re_lst (ra_cons re_int (ra_cons re_int ra_nil))) (re_var 1)) ra_nil)))
   (rss_cons (rs_set 9 nd rfl (by first | exact .inl rfl | exact .inr rfl) (re_bin og_add (re_call (ok_q18 T TB 8) (hr.mono (by omega)) (by rfl) T.t_q18.g T.t_q18.F.kp T.t_q18.b tk (ra_cons (re_var 0) (ra_cons (re_var 7) (ra_cons (re_var 2) (ra_cons (re_var 8) (ra_cons re_int ra_nil))))) (aC_len (aC_len (aC_len (aC_len (aC_len aN_len)))))) (re_call (ok_q18 T TB 8) (hr.mono (by omega)) (by rfl) T.t_q18.g T.t_q18.F.kp T.t_q18.b tk (ra_cons (re_var 0) (ra_cons (re_var 7) (ra_cons (re_var 2) (ra_cons (re_var 8) (ra_cons re_int ra_nil))))) (aC_len (aC_len (aC_len (aC_len (aC_len aN_len))))))))
   (rss_one (rs_expr (re_bm PySem.F.plainAttrs_list PySem.F.slot_list_append PySem.F.type_list_append om_append (re_var 5) (ra_cons (re_tup (ra_cons (re_var 3) (ra_cons (re_var 6) (ra_cons (re_var 9) ra_nil)))) ra_nil))))))))
   (rss_one (rs_ret (re_var 5))))))))
theorem ok_q19 (T:Tx K mg w) (TB:LamX.TabB base mg T.cT T.pT):FnOk P w K mg base (L2.CX P w) 1 T.t_q19.a T.t_q19.d ["_law_rows_here"] (spD P w K mg 1 m_q19):=fn_body (k:=0) T.t_q19.F sc_q19 rfl fun cdv A outer s H Q E hr => by
  have nd:=sc_q19.nd
  have hu1:=hu_of hr
  have hu64:=hr.units
  have hu65:=hu65_of hr
  have tk:=takes_of (X:=cxOf (L2.CX P w) P w K mg base ["_law_rows_here", "_law_found", "_law_left", "_law_row_here"] "_law_each" (defScope (topS 32)) T.t_q19.a cdv A outer s H E) (E:=E) rfl rfl rfl rfl
  exact (rss_cons (rs_set 1 nd rfl (by first | exact .inl rfl | exact .inr rfl) (re_lst ra_nil))
   (rss_cons (rs_set 2 nd rfl (by first | exact .inl rfl | exact .inr rfl) (re_callTy cr_list (by rfl) T.n_list (by decide +kernel) (ra_cons (re_var 0) ra_nil)))
   (rss_cons (rs_while (passes_of rfl) (rt_cmp (og_ne hu64) (re_var 2) (re_lst ra_nil)) (rss_cons (rs_set 3 nd rfl (by first | exact .inl rfl | exact .inr rfl) (re_bm PySem.F.plainAttrs_list PySem.F.slot_list_pop PySem.F.type_list_pop om_pop (re_var 2) (ra_cons re_int ra_nil)))
   (rss_cons (rs_expr (re_bm PySem.F.plainAttrs_list PySem.F.slot_list_append PySem.F.type_list_append om_append (re_var 1) (ra_cons (re_var 3) ra_nil)))
   (rss_one (rs_if (rt_cmp (og_eq hu64) (re_ix (re_var 3) re_int) re_str) (rss_one (rs_set 2 nd rfl (by first | exact .inl rfl | exact .inr rfl) (re_bin og_add (re_bin og_add (re_callTy cr_list (by rfl) T.n_list (by decide +kernel) (ra_cons (re_ix (re_var 3) re_int) ra_nil)) (re_callTy cr_list (by rfl) T.n_list (by decide +kernel) (ra_cons (re_ix (re_var 3) re_int) ra_nil))) (re_var 2)))) rss_nil)))))
   (rss_one (rs_ret (re_var 1))))))
theorem ok_q9 (T:Tx K mg w) (TB:LamX.TabB base mg T.cT T.pT):∀ d:Nat,FnOk P w K mg base (L2.CX P w) (1 + d) T.t_q9.a T.t_q9.d ["_law_rows_here"] (spD P w K mg 1 (m_q9 d))
 | 0 => fn_bad
 | d + 1 => by
  have ih__law_loose:=ok_q9 T TB d
  exact fn_body (k:=1 + d) T.t_q9.F sc_q9 rfl fun cdv A outer s H Q E hr => by
    have nd:=sc_q9.nd
    have hu1:=hu_of hr
    have hu64:=hr.units
    have hu65:=hu65_of hr
    have tk:=takes_of (X:=cxOf (L2.CX P w) P w K mg base ["_law_rows_here", "_law_row_here"] "_law_loose" (defScope (topS 33)) T.t_q9.a cdv A outer s H E) (E:=E) rfl rfl rfl rfl
    exact (rss_one (rs_ret (re_lc (own:=[("_law_row_here",1)]) rfl nd (ri_seq (re_var 0)) (blkOk_by (own:=[("_law_row_here",1)]) (N:=["_law_rows_here", "_law_row_here"]) (sc:=defScope (topS 33)) (by decide +kernel)) (fun _ _ _ _ _ => (rg_name 1 nd rfl (by first | exact .inl rfl | exact .inr rfl))) (fun _ _ _ _ _ => rts_nil) (fun _ _ _ _ _ => (re_if (rt_cmp (og_eq hu64) (re_ix (re_var 1) re_int) re_str) (re_lst (ra_cons (re_var 1) (ra_cons (re_call ih__law_loose (hr.mono (by omega)) (by rfl) T.t_q9.g T.t_q9.F.kp T.t_q9.b takes0 (ra_cons (re_ix (re_var 1) re_int) ra_nil) (aC_len aN_len)) (ra_cons (re_call ih__law_loose (hr.mono (by omega)) (by rfl) T.t_q9.g T.t_q9.F.kp T.t_q9.b takes0 (ra_cons (re_ix (re_var 1) re_int) ra_nil) (aC_len aN_len)) ra_nil)))) (re_lst (ra_cons (re_var 1) ra_nil)))) (by decide))))
theorem ok_q14 (T:Tx K mg w) (TB:LamX.TabB base mg T.cT T.pT):∀ d:Nat,FnOk P w K mg base (L2.CX P w) (1 + d) T.t_q14.a T.t_q14.d ["_law_lists"] (spD P w K mg 1 (m_q14 d))
 | 0 => fn_bad
 | d + 1 => by
  have ih__law_bound:=ok_q14 T TB d
  exact fn_body (k:=1 + d) T.t_q14.F sc_q14 rfl fun cdv A outer s H Q E hr => by
    have nd:=sc_q14.nd
    have hu1:=hu_of hr
    have hu64:=hr.units
    have hu65:=hu65_of hr
    have tk:=takes_of (X:=cxOf (L2.CX P w) P w K mg base ["_law_lists", "_law_found", "_law_one", "_law_row_here"] "_law_bound" (defScope (topS 34)) T.t_q14.a cdv A outer s H E) (E:=E) rfl rfl rfl rfl
    exact (rss_cons (rs_set 1 nd rfl (by first | exact .inl rfl | exact .inr rfl) (re_lst ra_nil))
     (rss_cons (rs_for (passes_of rfl) rfl (ri_seq (re_var 0)) (rg_name 2 nd rfl (by first | exact .inl rfl | exact .inr rfl)) (rss_cons (rs_set 3 nd rfl (by first | exact .inl rfl | exact .inr rfl) (re_ix (re_var 2) re_int))
     (rss_cons (rs_if (rt_cmp og_gt (re_callB cr_len (by rfl) T.n_len (by decide +kernel) (ra_cons (re_var 2) ra_nil)) re_int) (rss_one (rs_set 3 nd rfl (by first | exact .inl rfl | exact .inr rfl) (re_tup (ra_cons re_str (ra_cons (re_ix (re_var 3) re_int) (ra_cons (re_call ih__law_bound (hr.mono (by omega)) (by rfl) T.t_q14.g T.t_q14.F.kp T.t_q14.b tk (ra_cons (re_ix (re_var 2) re_int) ra_nil) (aC_len aN_len)) (ra_cons (re_call ih__law_bound (hr.mono (by omega)) (by rfl) T.t_q14.g T.t_q14.F.kp T.t_q14.b tk (ra_cons (re_ix (re_var 2) re_int) ra_nil) (aC_len aN_len)) ra_nil))))))) rss_nil)
     (rss_one (rs_expr (re_bm PySem.F.plainAttrs_list PySem.F.slot_list_append PySem.F.type_list_append om_append (re_var 1) (ra_cons (re_var 3) ra_nil)))))))
     (rss_one (rs_ret (re_callTy cr_tuple (by rfl) T.n_tuple (by decide +kernel) (ra_cons (re_var 1) ra_nil))))))
theorem ok_q12 (T:Tx K mg w) (TB:LamX.TabB base mg T.cT T.pT):∀ d:Nat,FnOk P w K mg base (L2.CX P w) (1 + d) T.t_q12.a T.t_q12.d ["_law_lists", "_law_deep"] (spD P w K mg 2 (m_q12 d))
 | 0 => fn_bad
 | d + 1 => by
  have ih__law_spots:=ok_q12 T TB d
  exact fn_body (k:=1 + d) T.t_q12.F sc_q12 rfl fun cdv A outer s H Q E hr => by
    have nd:=sc_q12.nd
    have hu1:=hu_of hr
    have hu64:=hr.units
    have hu65:=hu65_of hr
    have tk:=takes_of (X:=cxOf (L2.CX P w) P w K mg base ["_law_lists", "_law_deep", "_law_found", "_law_at", "_law_inner"] "_law_spots" (defScope (topS 35)) T.t_q12.a cdv A outer s H E) (E:=E) rfl rfl rfl rfl
    exact (rss_cons (rs_set 2 nd rfl (by first | exact .inl rfl | exact .inr rfl) (re_lst ra_nil))
     (rss_cons (rs_for (passes_of rfl) rfl (ri_range1 (by rfl) T.n_range (re_callB cr_len (by rfl) T.n_len (by decide +kernel) (ra_cons (re_var 0) ra_nil))) (rg_name 3 nd rfl (by first | exact .inl rfl | exact .inr rfl)) (rss_cons (rs_expr (re_bm PySem.F.plainAttrs_list PySem.F.slot_list_append PySem.F.type_list_append om_append (re_var 2) (ra_cons (re_tup (ra_cons (re_var 0) (ra_cons (re_var 3) (ra_cons (re_var 1) ra_nil)))) ra_nil)))
     (rss_one (rs_for (passes_of rfl) rfl (ri_seq (re_slice (re_ix (re_var 0) (re_var 3)) (ro_some re_int) ro_none)) (rg_name 4 nd rfl (by first | exact .inl rfl | exact .inr rfl)) (rss_one (rs_set 2 nd rfl (by first | exact .inl rfl | exact .inr rfl) (re_bin og_add (re_var 2) (re_call ih__law_spots (hr.mono (by omega)) (by rfl) T.t_q12.g T.t_q12.F.kp T.t_q12.b tk (ra_cons (re_var 4) (ra_cons (re_bin og_add (re_var 1) re_int) ra_nil)) (aC_len (aC_len aN_len))))))))))
     (rss_one (rs_ret (re_var 2)))))
theorem ok_q1 (T:Tx K mg w) (TB:LamX.TabB base mg T.cT T.pT):FnOk P w K mg base (L2.CX P w) 8 T.t_q1.a T.t_q1.d ["_law_rows_here", "_law_deed"] (spD P w K mg 2 m_q1):=fn_body (k:=7) T.t_q1.F sc_q1 rfl fun cdv A outer s H Q E hr => by
  have nd:=sc_q1.nd
  have hu1:=hu_of hr
  have hu64:=hr.units
  have hu65:=hu65_of hr
  have tk:=takes_of (X:=cxOf (L2.CX P w) P w K mg base ["_law_rows_here", "_law_deed", "_law_lists", "_law_spots_here", "_law_number", "_law_inside", "_law_at", "_law_deep"] "_law_rows_edited" (defScope (topS 36)) T.t_q1.a cdv A outer s H E) (E:=E) rfl rfl rfl rfl
  exact (rss_cons (rs_set 2 nd rfl (by first | exact .inl rfl | exact .inr rfl) (re_call (ok_q9 T TB 6) (hr.mono (by omega)) (by rfl) T.t_q9.g T.t_q9.F.kp T.t_q9.b tk (ra_cons (re_var 0) ra_nil) (aC_len aN_len)))
   (rss_cons (rs_set 3 nd rfl (by first | exact .inl rfl | exact .inr rfl) (re_call (ok_q12 T TB 6) (hr.mono (by omega)) (by rfl) T.t_q12.g T.t_q12.F.kp T.t_q12.b tk (ra_cons (re_var 2) (ra_cons re_int ra_nil)) (aC_len (aC_len aN_len))))
   (rss_cons (rs_set 4 nd rfl (by first | exact .inl rfl | exact .inr rfl) (re_ix (re_var 1) re_int))
   (rss_cons (rs_if (rt_of (rw_and (rt_cmp (og_eq hu64) (re_ix (re_var 1) re_int) re_str) (rw_and1 (rt_cmp (og_eq hu64) (re_var 4) (re_bin og_add (re_callB cr_len (by rfl) T.n_len (by decide +kernel) (ra_cons (re_var 3) ra_nil)) re_int))))) (rss_one (rs_expr (re_bm PySem.F.plainAttrs_list PySem.F.slot_list_append PySem.F.type_list_append om_append (re_var 3) (ra_cons (re_tup (ra_cons (re_var 2) (ra_cons (re_callB cr_len (by rfl) T.n_len (by decide +kernel) (ra_cons (re_var 2) ra_nil)) (ra_cons re_int ra_nil)))) ra_nil)))) rss_nil)
   (rss_cons (rs_if (rt_not (rt_chain og_le og_le re_int (re_var 4) (re_callB cr_len (by rfl) T.n_len (by decide +kernel) (ra_cons (re_var 3) ra_nil)))) (rss_one (rs_ret re_non)) rss_nil)
   (rss_cons (rs_asg (re_ix (re_var 3) (re_bin og_sub (re_var 4) re_int)) (rg_tup rfl (rgs_cons (rg_name 5 nd rfl (by first | exact .inl rfl | exact .inr rfl)) (rgs_cons (rg_name 6 nd rfl (by first | exact .inl rfl | exact .inr rfl)) (rgs_cons (rg_name 7 nd rfl (by first | exact .inl rfl | exact .inr rfl)) rgs_nil)))))
   (rss_cons (rs_if (rt_cmp (og_eq hu64) (re_ix (re_var 1) re_int) re_str) (rss_one (rs_expr (re_bm PySem.F.plainAttrs_list PySem.F.slot_list_insert PySem.F.type_list_insert om_insert (re_var 5) (ra_cons (re_var 6) (ra_cons (re_ix (re_call (ok_q9 T TB 6) (hr.mono (by omega)) (by rfl) T.t_q9.g T.t_q9.F.kp T.t_q9.b tk (ra_cons (re_slice (re_var 1) (ro_some re_int) ro_none) ra_nil) (aC_len aN_len)) re_int) ra_nil))))) (rss_one (rs_if (rt_cmp (og_eq hu64) (re_ix (re_var 1) re_int) re_str) (rss_one (rs_expr (re_bm PySem.F.plainAttrs_list PySem.F.slot_list_pop PySem.F.type_list_pop om_pop (re_var 5) (ra_cons (re_var 6) ra_nil)))) (rss_one (rs_sub (re_ix (re_call (ok_q9 T TB 6) (hr.mono (by omega)) (by rfl) T.t_q9.g T.t_q9.F.kp T.t_q9.b tk (ra_cons (re_slice (re_var 1) (ro_some re_int) ro_none) ra_nil) (aC_len aN_len)) re_int) (re_var 5) (re_var 6))))))
   (rss_one (rs_ret (re_call (ok_q14 T TB 6) (hr.mono (by omega)) (by rfl) T.t_q14.g T.t_q14.F.kp T.t_q14.b tk (ra_cons (re_var 2) ra_nil) (aC_len aN_len)))))))))))
theorem ok_q5 (T:Tx K mg w) (TB:LamX.TabB base mg T.cT T.pT):FnOk P w K mg base (L2.CX P w) 9 T.t_q5.a T.t_q5.d ["_law_some", "_law_deed"] (spD P w K mg 2 m_q5):=fn_body (k:=8) T.t_q5.F sc_q5 rfl fun cdv A outer s H Q E hr => by
  have nd:=sc_q5.nd
  have hu1:=hu_of hr
  have hu64:=hr.units
  have hu65:=hu65_of hr
  have tk:=takes_of (X:=cxOf (L2.CX P w) P w K mg base ["_law_some", "_law_deed", "_law_names_here", "_law_at", "_law_rows_here", "_law_word", "_law_name_here", "_law_made", "_law_one"] "_law_edited" (defScope (topS 37)) T.t_q5.a cdv A outer s H E) (E:=E) rfl rfl rfl rfl
  exact (rss_cons (rs_setLc 2 (own:=[("_law_one",8)]) rfl nd rfl rfl (sw_true rfl rfl rfl (by decide +kernel)) (ri_seq (re_var 0)) (blkOk_by (own:=[("_law_one",8)]) (N:=["_law_some", "_law_deed", "_law_names_here", "_law_at", "_law_rows_here", "_law_word", "_law_name_here", "_law_made", "_law_one"]) (sc:=defScope (topS 37)) (by decide +kernel)) (fun _ _ _ _ _ => (rg_name 8 nd rfl (by first | exact .inl rfl | exact .inr rfl))) (fun _ _ _ _ _ => rts_nil) (fun _ _ _ _ _ => (re_ix (re_var 8) re_int)) (by decide))
   (rss_cons (rs_asg (re_slice (re_var 1) ro_none (ro_some re_int)) (rg_tup rfl (rgs_cons (rg_name 5 nd rfl (by first | exact .inl rfl | exact .inr rfl)) (rgs_cons (rg_name 6 nd rfl (by first | exact .inl rfl | exact .inr rfl)) rgs_nil))))
   (rss_cons (rs_if (rt_cmp (og_eq hu64) (re_var 5) re_str) (rss_cons (rs_set 7 nd rfl (by first | exact .inl rfl | exact .inr rfl) (re_tup (ra_cons (re_var 6) (ra_cons (re_ix (re_var 1) re_int) (ra_cons (re_ix (re_var 1) re_int) ra_nil)))))
   (rss_one (rs_ret (re_bin og_add (re_lc (own:=[("_law_one",8)]) rfl nd (ri_seq (re_var 0)) (blkOk_by (own:=[("_law_one",8)]) (N:=["_law_some", "_law_deed", "_law_names_here", "_law_at", "_law_rows_here", "_law_word", "_law_name_here", "_law_made", "_law_one"]) (sc:=defScope (topS 37)) (by decide +kernel)) (fun _ _ _ _ _ => (rg_name 8 nd rfl (by first | exact .inl rfl | exact .inr rfl))) (fun _ _ _ _ _ => rts_nil) (fun _ _ _ _ _ => (re_if (rt_cmp (og_eq hu64) (re_ix (re_var 8) re_int) (re_var 6)) (re_var 7) (re_var 8))) (by decide)) (re_bin og_mulL (re_lst (ra_cons (re_var 7) ra_nil)) (re_callTy cr_int (by rfl) T.n_int (by decide +kernel) (ra_cons (re_cmp (og_notIn hu65) (re_var 6) (re_var 2)) ra_nil))))))) rss_nil)
   (rss_cons (rs_if (rt_cmp (og_notIn hu65) (re_var 6) (re_var 2)) (rss_one (rs_ret re_non)) rss_nil)
   (rss_cons (rs_set 3 nd rfl (by first | exact .inl rfl | exact .inr rfl) (re_bm PySem.F.plainAttrs_list PySem.F.slot_list_index PySem.F.type_list_index om_lindex (re_var 2) (ra_cons (re_var 6) ra_nil)))
   (rss_cons (rs_if (rt_cmp (og_eq hu64) (re_var 5) re_str) (rss_one (rs_ret (re_bin og_add (re_slice (re_var 0) ro_none (ro_some (re_var 3))) (re_slice (re_var 0) (ro_some (re_bin og_add (re_var 3) re_int)) ro_none)))) rss_nil)
   (rss_cons (rs_set 4 nd rfl (by first | exact .inl rfl | exact .inr rfl) (re_call (ok_q1 T TB) (hr.mono (by omega)) (by rfl) T.t_q1.g T.t_q1.F.kp T.t_q1.b tk (ra_cons (re_ix (re_ix (re_var 0) (re_var 3)) re_int) (ra_cons (re_var 1) ra_nil)) (aC_len (aC_len aN_len))))
   (rss_cons (rs_if (rt_isN (re_var 4)) (rss_one (rs_ret re_non)) rss_nil)
   (rss_one (rs_ret (re_bin og_add (re_bin og_add (re_slice (re_var 0) ro_none (ro_some (re_var 3))) (re_lst (ra_cons (re_tup (ra_cons (re_var 6) (ra_cons (re_ix (re_ix (re_var 0) (re_var 3)) re_int) (ra_cons (re_var 4) ra_nil)))) ra_nil))) (re_slice (re_var 0) (ro_some (re_bin og_add (re_var 3) re_int)) ro_none))))))))))))
theorem ok_q2 (T:Tx K mg w) (TB:LamX.TabB base mg T.cT T.pT):FnOk P w K mg base (L2.CX P w) 14 T.t_q2.a T.t_q2.d ["_law_tray_here", "_law_own", "_law_heads", "_law_deep"] (spD P w K mg 4 m_q2):=fn_body (k:=13) T.t_q2.F sc_q2 rfl fun cdv A outer s H Q E hr => by
  have nd:=sc_q2.nd
  have hu1:=hu_of hr
  have hu64:=hr.units
  have hu65:=hu65_of hr
  have tk:=takes_of (X:=cxOf (L2.CX P w) P w K mg base ["_law_tray_here", "_law_own", "_law_heads", "_law_deep", "_law_row_here", "_law_parts"] "_law_new_row" (defScope (topS 38)) T.t_q2.a cdv A outer s H E) (E:=E) rfl rfl rfl rfl
  exact (rss_cons (rs_set 4 nd rfl (by first | exact .inl rfl | exact .inr rfl) (re_call (ok_q25 T TB 8) (hr.mono (by omega)) (by rfl) T.t_q25.g T.t_q25.F.kp T.t_q25.b tk (ra_cons (re_var 0) (ra_cons (re_var 1) (ra_cons (re_var 2) (ra_cons (re_lst (ra_cons re_int ra_nil)) (ra_cons re_int ra_nil))))) (aC_len (aC_len (aC_len (aC_len (aC_len aN_len)))))))
   (rss_cons (rs_if (rt_of (rw_and (rt_cmp og_lt (re_var 3) re_int) (rw_and1 (rt_cmp (og_eq hu64) (re_call (ok_q20 T TB) (hr.mono (by omega)) (by rfl) T.t_q20.g T.t_q20.F.kp T.t_q20.b tk (ra_cons (re_var 0) (ra_cons re_int ra_nil)) (aC_len (aC_len aN_len))) re_int)))) (rss_cons (rs_set 5 nd rfl (by first | exact .inl rfl | exact .inr rfl) (re_lst (ra_cons (re_tup ra_nil) (ra_cons (re_tup (ra_cons (re_var 4) ra_nil)) (ra_cons (re_tup (ra_cons (re_var 4) (ra_cons (re_call (ok_q25 T TB 8) (hr.mono (by omega)) (by rfl) T.t_q25.g T.t_q25.F.kp T.t_q25.b tk (ra_cons (re_var 0) (ra_cons (re_var 1) (ra_cons (re_var 2) (ra_cons (re_lst (ra_cons re_int ra_nil)) (ra_cons re_int ra_nil))))) (aC_len (aC_len (aC_len (aC_len (aC_len aN_len)))))) ra_nil))) ra_nil)))))
   (rss_one (rs_ret (re_tup (ra_cons re_str (ra_cons (re_ix (re_var 1) (re_call (ok_q20 T TB) (hr.mono (by omega)) (by rfl) T.t_q20.g T.t_q20.F.kp T.t_q20.b tk (ra_cons (re_var 0) (ra_cons (re_callB cr_len (by rfl) T.n_len (by decide +kernel) (ra_cons (re_var 1) ra_nil)) ra_nil)) (aC_len (aC_len aN_len)))) (ra_cons (re_ix (re_var 5) (re_call (ok_q20 T TB) (hr.mono (by omega)) (by rfl) T.t_q20.g T.t_q20.F.kp T.t_q20.b tk (ra_cons (re_var 0) (ra_cons re_int ra_nil)) (aC_len (aC_len aN_len)))) (ra_cons (re_ix (re_var 5) (re_call (ok_q20 T TB) (hr.mono (by omega)) (by rfl) T.t_q20.g T.t_q20.F.kp T.t_q20.b tk (ra_cons (re_var 0) (ra_cons re_int ra_nil)) (aC_len (aC_len aN_len)))) ra_nil)))))))) rss_nil)
   (rss_one (rs_ret (re_var 4)))))
theorem ok_q21 (T:Tx K mg w) (TB:LamX.TabB base mg T.cT T.pT):FnOk P w K mg base (L2.CX P w) 15 T.t_q21.a T.t_q21.d ["_law_tray_here", "_law_some", "_law_room"] (spD P w K mg 3 m_q21):=fn_body (k:=14) T.t_q21.F sc_q21 rfl fun cdv A outer s H Q E hr => by
  have nd:=sc_q21.nd
  have hu1:=hu_of hr
  have hu64:=hr.units
  have hu65:=hu65_of hr
  have tk:=takes_of (X:=cxOf (L2.CX P w) P w K mg base ["_law_tray_here", "_law_some", "_law_room", "_law_lot", "_law_heads", "_law_every", "_law_one", "_law_full", "_law_own", "_law_spots_here", "_law_called", "_law_number", "_law_name_here", "_law_parameters", "_law_rows_here", "_law_fresh", "_law_more", "_law_row_here"] "_law_edit" (defScope (topS 39)) T.t_q21.a cdv A outer s H E) (E:=E) rfl rfl rfl rfl
  exact (rss_cons (rs_set 3 nd rfl (by first | exact .inl rfl | exact .inr rfl) (re_call (ok_q20 T TB) (hr.mono (by omega)) (by rfl) T.t_q20.g T.t_q20.F.kp T.t_q20.b tk (ra_cons (re_var 0) (ra_cons re_int ra_nil)) (aC_len (aC_len aN_len))))
   (rss_cons (rs_setLc 4 (own:=[("_law_one",6)]) rfl nd rfl rfl (sw_true rfl rfl rfl (by decide +kernel)) (ri_seq (re_var 1)) (blkOk_by (own:=[("_law_one",6)]) (N:=["_law_tray_here", "_law_some", "_law_room", "_law_lot", "_law_heads", "_law_every", "_law_one", "_law_full", "_law_own", "_law_spots_here", "_law_called", "_law_number", "_law_name_here", "_law_parameters", "_law_rows_here", "_law_fresh", "_law_more", "_law_row_here"]) (sc:=defScope (topS 39)) (by decide +kernel)) (fun _ _ _ _ _ => (rg_name 6 nd rfl (by first | exact .inl rfl | exact .inr rfl))) (fun _ _ _ _ _ => rts_nil) (fun _ _ _ _ _ => (re_slice (re_var 6) ro_none (ro_some re_int))) (by decide))
   (rss_cons (rs_set 5 nd rfl (by first | exact .inl rfl | exact .inr rfl) (re_lst ra_nil))
   (rss_cons (rs_for (passes_of rfl) rfl (ri_seq (re_var 1)) (rg_name 6 nd rfl (by first | exact .inl rfl | exact .inr rfl)) (rss_one (rs_set 5 nd rfl (by first | exact .inl rfl | exact .inr rfl) (re_bin og_add (re_var 5) (re_call (ok_q19 T TB) (hr.mono (by omega)) (by rfl) T.t_q19.g T.t_q19.F.kp T.t_q19.b tk (ra_cons (re_ix (re_var 6) re_int) ra_nil) (aC_len aN_len))))))
   (rss_cons (rs_set 7 nd rfl (by first | exact .inl rfl | exact .inr rfl) (re_orT (re_bin og_mulL (re_lc (own:=[("_law_one",6)]) rfl nd (ri_seq (re_var 1)) (blkOk_by (own:=[("_law_one",6)]) (N:=["_law_tray_here", "_law_some", "_law_room", "_law_lot", "_law_heads", "_law_every", "_law_one", "_law_full", "_law_own", "_law_spots_here", "_law_called", "_law_number", "_law_name_here", "_law_parameters", "_law_rows_here", "_law_fresh", "_law_more", "_law_row_here"]) (sc:=defScope (topS 39)) (by decide +kernel)) (fun _ _ _ _ _ => (rg_name 6 nd rfl (by first | exact .inl rfl | exact .inr rfl))) (fun _ _ _ _ _ => (rts_one (rt_cmp (og_ne hu64) (re_ix (re_var 6) re_int) (re_tup ra_nil)))) (fun _ _ _ _ _ => (re_var 6)) (by decide)) (re_callTy cr_int (by rfl) T.n_int (by decide +kernel) (ra_cons (re_cmp og_gt (re_callB cr_len (by rfl) T.n_len (by decide +kernel) (ra_cons (re_var 5) ra_nil)) (re_var 2)) ra_nil))) (re_one (re_var 1))))
   (rss_cons (rs_asg (re_ix (re_var 7) (re_call (ok_q20 T TB) (hr.mono (by omega)) (by rfl) T.t_q20.g T.t_q20.F.kp T.t_q20.b tk (ra_cons (re_var 0) (ra_cons (re_callB cr_len (by rfl) T.n_len (by decide +kernel) (ra_cons (re_var 7) ra_nil)) ra_nil)) (aC_len (aC_len aN_len)))) (rg_tup rfl (rgs_cons (rg_name 12 nd rfl (by first | exact .inl rfl | exact .inr rfl)) (rgs_cons (rg_name 13 nd rfl (by first | exact .inl rfl | exact .inr rfl)) (rgs_cons (rg_name 14 nd rfl (by first | exact .inl rfl | exact .inr rfl)) rgs_nil)))))
   (rss_cons (rs_set 8 nd rfl (by first | exact .inl rfl | exact .inr rfl) (re_bin og_add (re_lst (ra_cons re_str (ra_cons re_str (ra_cons re_str ra_nil)))) (re_callTy cr_list (by rfl) T.n_list (by decide +kernel) (ra_cons (re_var 13) ra_nil))))
   (rss_cons (rs_set 9 nd rfl (by first | exact .inl rfl | exact .inr rfl) (re_call (ok_q12 T TB 6) (hr.mono (by omega)) (by rfl) T.t_q12.g T.t_q12.F.kp T.t_q12.b tk (ra_cons (re_call (ok_q9 T TB 6) (hr.mono (by omega)) (by rfl) T.t_q9.g T.t_q9.F.kp T.t_q9.b tk (ra_cons (re_var 14) ra_nil) (aC_len aN_len)) (ra_cons re_int ra_nil)) (aC_len (aC_len aN_len))))
   (rss_cons (rs_if (rt_of (rw_and (rt_cmp (og_eq hu64) (re_var 3) re_int) (rw_and (rt_cmp og_lt (re_callB cr_len (by rfl) T.n_len (by decide +kernel) (ra_cons (re_var 1) ra_nil)) re_int) (rw_and1 (rt_cmp og_le (re_callB cr_len (by rfl) T.n_len (by decide +kernel) (ra_cons (re_var 5) ra_nil)) (re_var 2)))))) (rss_cons (rs_set 15 nd rfl (by first | exact .inl rfl | exact .inr rfl) (re_call (ok_q22 T TB) (hr.mono (by omega)) (by rfl) T.t_q22.g T.t_q22.F.kp T.t_q22.b tk (ra_cons (re_var 0) (ra_cons (re_lc (own:=[("_law_one",6)]) rfl nd (ri_seq (re_var 1)) (blkOk_by (own:=[("_law_one",6)]) (N:=["_law_tray_here", "_law_some", "_law_room", "_law_lot", "_law_heads", "_law_every", "_law_one", "_law_full", "_law_own", "_law_spots_here", "_law_called", "_law_number", "_law_name_here", "_law_parameters", "_law_rows_here", "_law_fresh", "_law_more", "_law_row_here"]) (sc:=defScope (topS 39)) (by decide +kernel)) (fun _ _ _ _ _ => (rg_name 6 nd rfl (by first | exact .inl rfl | exact .inr rfl))) (fun _ _ _ _ _ => rts_nil) (fun _ _ _ _ _ => (re_ix (re_var 6) re_int)) (by decide)) ra_nil)) (aC_len (aC_len aN_len))))
   (rss_cons (rs_set 16 nd rfl (by first | exact .inl rfl | exact .inr rfl) (re_bin og_tmul (re_tup (ra_cons (re_call (ok_q2 T TB) (hr.mono (by omega)) (by rfl) T.t_q2.g T.t_q2.F.kp T.t_q2.b tk (ra_cons (re_var 0) (ra_cons (re_var 8) (ra_cons (re_var 4) (ra_cons re_int ra_nil)))) (aC_len (aC_len (aC_len (aC_len aN_len))))) ra_nil)) (re_call (ok_q20 T TB) (hr.mono (by omega)) (by rfl) T.t_q20.g T.t_q20.F.kp T.t_q20.b tk (ra_cons (re_var 0) (ra_cons re_int ra_nil)) (aC_len (aC_len aN_len)))))
   (rss_one (rs_ret (re_tup (ra_cons re_str (ra_cons (re_var 15) (ra_cons (re_callTy cr_tuple (by rfl) T.n_tuple (by decide +kernel) (ra_cons (re_call (ok_q8 T TB) (hr.mono (by omega)) (by rfl) T.t_q8.g T.t_q8.F.kp T.t_q8.b tk (ra_cons (re_var 0) (ra_cons (re_call (ok_q20 T TB) (hr.mono (by omega)) (by rfl) T.t_q20.g T.t_q20.F.kp T.t_q20.b tk (ra_cons (re_var 0) (ra_cons re_int ra_nil)) (aC_len (aC_len aN_len))) (ra_cons (re_lst ra_nil) ra_nil))) (aC_len (aC_len (aC_len aN_len)))) ra_nil)) (ra_cons (re_var 16) ra_nil))))))))) rss_nil)
   (rss_cons (rs_if (rt_cmp (og_eq hu64) (re_var 3) re_int) (rss_one (rs_ret (re_tup (ra_cons re_str (ra_cons (re_var 12) (ra_cons (re_var 13) (ra_cons (re_revA (re_slice (re_var 14) (ro_some (re_call (ok_q20 T TB) (hr.mono (by omega)) (by rfl) T.t_q20.g T.t_q20.F.kp T.t_q20.b tk (ra_cons (re_var 0) (ra_cons re_int ra_nil)) (aC_len (aC_len aN_len)))) ro_none)) ra_nil))))))) rss_nil)
   (rss_cons (rs_setLc 10 (own:=[("_law_row_here",17)]) rfl nd rfl rfl (sw_true rfl rfl rfl (by decide +kernel)) (ri_seq (re_var 5)) (blkOk_by (own:=[("_law_row_here",17)]) (N:=["_law_tray_here", "_law_some", "_law_room", "_law_lot", "_law_heads", "_law_every", "_law_one", "_law_full", "_law_own", "_law_spots_here", "_law_called", "_law_number", "_law_name_here", "_law_parameters", "_law_rows_here", "_law_fresh", "_law_more", "_law_row_here"]) (sc:=defScope (topS 39)) (by decide +kernel)) (fun _ _ _ _ _ => (rg_name 17 nd rfl (by first | exact .inl rfl | exact .inr rfl))) (fun _ _ _ _ _ => (rts_one (rt_of (rw_and (rt_cmp (og_eq hu64) (re_ix (re_var 17) re_int) re_str) (rw_and1 (rt_cmp (og_eq hu64) (re_ix (re_ix (re_var 17) re_int) re_int) re_str)))))) (fun _ _ _ _ _ => (re_ix (re_ix (re_var 17) re_int) re_int)) (by decide))
   (rss_cons (rs_if (rt_of (rw_and (rt_cmp (og_eq hu64) (re_var 3) re_int) (rw_and (rt_cmp (og_ne hu64) (re_var 12) re_str) (rw_and1 (rt_cmp (og_notIn hu65) (re_var 12) (re_var 10)))))) (rss_one (rs_ret (re_tup (ra_cons re_str (ra_cons (re_var 12) ra_nil))))) rss_nil)
   (rss_cons (rs_if (rt_of (rw_and (rt_cmp (og_neNil hu64) (re_var 9) (re_lst ra_nil)) (rw_and1 (rt_of (rw_or (rt_cmp (og_eq hu64) (re_var 3) re_int) (rw_or (rt_cmp og_gt (re_callB cr_len (by rfl) T.n_len (by decide +kernel) (ra_cons (re_var 9) ra_nil)) re_int) (rw_or1 (rt_cmp og_gt (re_callB cr_len (by rfl) T.n_len (by decide +kernel) (ra_cons (re_var 5) ra_nil)) (re_var 2))))))))) (rss_one (rs_ret (re_tup (ra_cons re_str (ra_cons (re_var 12) (ra_cons (re_bin og_add re_int (re_call (ok_q20 T TB) (hr.mono (by omega)) (by rfl) T.t_q20.g T.t_q20.F.kp T.t_q20.b tk (ra_cons (re_var 0) (ra_cons (re_callB cr_len (by rfl) T.n_len (by decide +kernel) (ra_cons (re_var 9) ra_nil)) ra_nil)) (aC_len (aC_len aN_len)))) ra_nil)))))) rss_nil)
   (rss_cons (rs_set 11 nd rfl (by first | exact .inl rfl | exact .inr rfl) (re_bin og_add re_int (re_call (ok_q20 T TB) (hr.mono (by omega)) (by rfl) T.t_q20.g T.t_q20.F.kp T.t_q20.b tk (ra_cons (re_var 0) (ra_cons (re_bin og_add (re_callB cr_len (by rfl) T.n_len (by decide +kernel) (ra_cons (re_var 9) ra_nil)) re_int) ra_nil)) (aC_len (aC_len aN_len)))))
   (rss_cons (rs_if (rt_cmp og_gt (re_var 11) (re_callB cr_len (by rfl) T.n_len (by decide +kernel) (ra_cons (re_var 9) ra_nil))) (rss_one (rs_ret (re_tup (ra_cons re_str (ra_cons (re_var 12) (ra_cons (re_var 11) (ra_cons (re_call (ok_q2 T TB) (hr.mono (by omega)) (by rfl) T.t_q2.g T.t_q2.F.kp T.t_q2.b tk (ra_cons (re_var 0) (ra_cons (re_var 8) (ra_cons (re_var 4) (ra_cons re_int ra_nil)))) (aC_len (aC_len (aC_len (aC_len aN_len))))) ra_nil))))))) rss_nil)
   (rss_one (rs_ret (re_tup (ra_cons (re_ix (re_lst (ra_cons re_str (ra_cons re_str ra_nil))) (re_bin og_mod (re_var 3) re_int)) (ra_cons (re_var 12) (ra_cons (re_var 11) (ra_cons (re_call (ok_q2 T TB) (hr.mono (by omega)) (by rfl) T.t_q2.g T.t_q2.F.kp T.t_q2.b tk (ra_cons (re_var 0) (ra_cons (re_var 8) (ra_cons (re_var 4) (ra_cons (re_ix (re_ix (re_var 9) (re_bin og_sub (re_var 11) re_int)) re_int) ra_nil)))) (aC_len (aC_len (aC_len (aC_len aN_len))))) ra_nil))))))))))))))))))))))
theorem ok_law (T:Tx K mg w) (TB:LamX.TabB base mg T.cT T.pT):FnOk P w K mg base (L2.CX P w) 23 T.t_law.a T.t_law.d ["_law_script"] (spD P w K mg 1 m_law):=fn_body (k:=22) T.t_law.F sc_law rfl fun cdv A outer s H Q E hr => by
  have nd:=sc_law.nd
  have hu1:=hu_of hr
  have hu64:=hr.units
  have hu65:=hu65_of hr
  have tk:=takes_of (X:=cxOf (L2.CX P w) P w K mg base ["_law_script", "_law_tray_here", "_law_k", "_law_some", "_law_made", "_law_j", "_law_deed", "_law_due", "_law_found"] "law" (defScope (topS 40)) T.t_law.a cdv A outer s H E) (E:=E) rfl rfl rfl rfl
  exact (rss_cons (rs_set 1 nd rfl (by first | exact .inl rfl | exact .inr rfl) (re_call (ok_q17 T TB) (hr.mono (by omega)) (by rfl) T.t_q17.g T.t_q17.F.kp T.t_q17.b tk (ra_cons (re_var 0) ra_nil) (aC_len aN_len)))
   (rss_cons (rs_for (passes_of rfl) rfl (ri_range1 (by rfl) T.n_range (re_bin og_add re_int (re_callB cr_len (by rfl) T.n_len (by decide +kernel) (ra_cons (re_slice (re_var 0) ro_none (ro_some re_int)) ra_nil)))) (rg_name 2 nd rfl (by first | exact .inl rfl | exact .inr rfl)) (rss_cons (rs_set 3 nd rfl (by first | exact .inl rfl | exact .inr rfl) (re_call (ok_q3 T TB) (hr.mono (by omega)) (by rfl) T.t_q3.g T.t_q3.F.kp T.t_q3.b tk (ra_cons (re_var 1) (ra_cons (re_bin og_fdiv (re_call (ok_q20 T TB) (hr.mono (by omega)) (by rfl) T.t_q20.g T.t_q20.F.kp T.t_q20.b tk (ra_cons (re_var 1) (ra_cons re_int ra_nil)) (aC_len (aC_len aN_len))) re_int) ra_nil)) (aC_len (aC_len aN_len))))
   (rss_cons (rs_set 4 nd rfl (by first | exact .inl rfl | exact .inr rfl) (re_make T.mk_Program (ok_q4 T TB) (hr.mono (by omega)) (by rfl) T.g_Program T.t_q4.b tk (ra_cons (re_callTy cr_list (by rfl) T.n_list (by decide +kernel) (ra_cons (re_var 3) ra_nil)) ra_nil) (aC_len aN_len)))
   (rss_one (rs_for (passes_of rfl) rfl (ri_range1 (by rfl) T.n_range (re_bin og_add re_int (re_bin og_mul re_int (re_callB cr_len (by rfl) T.n_len (by decide +kernel) (ra_cons (re_slice (re_var 0) (ro_some re_int) (ro_some re_int)) ra_nil))))) (rg_name 5 nd rfl (by first | exact .inl rfl | exact .inr rfl)) (rss_cons (rs_set 6 nd rfl (by first | exact .inl rfl | exact .inr rfl) (re_call (ok_q21 T TB) (hr.mono (by omega)) (by rfl) T.t_q21.g T.t_q21.F.kp T.t_q21.b tk (ra_cons (re_var 1) (ra_cons (re_var 3) (ra_cons re_int ra_nil))) (aC_len (aC_len (aC_len aN_len)))))
   (rss_cons (rs_set 7 nd rfl (by first | exact .inl rfl | exact .inr rfl) (re_call (ok_q5 T TB) (hr.mono (by omega)) (by rfl) T.t_q5.g T.t_q5.F.kp T.t_q5.b tk (ra_cons (re_var 3) (ra_cons (re_var 6) ra_nil)) (aC_len (aC_len aN_len))))
   (rss_cons (rs_set 8 nd rfl (by first | exact .inl rfl | exact .inr rfl) (re_call (ok_q30 T TB) (hr.mono (by omega)) (by rfl) T.t_q30.g T.t_q30.F.kp T.t_q30.b tk (ra_cons (re_var 4) (ra_cons (re_var 6) ra_nil)) (aC_len (aC_len aN_len))))
   (rss_cons (rs_if (rt_of (rw_or (rt_isN (re_var 7)) (rw_or (rt_not (rt_tru (re_call (ok_q11 T TB 14) (hr.mono (by omega)) (by rfl) T.t_q11.g T.t_q11.F.kp T.t_q11.b tk (ra_cons (re_meth0 T.g_Program T.cl_Program T.m_q0 (ok_q0 T TB) (hr.mono (by omega)) T.t_q0.b tk (re_var 8)) (ra_cons (re_var 7) ra_nil)) (aC_len (aC_len aN_len))))) (rw_or1 (rt_not (rt_tru (re_call (ok_q11 T TB 14) (hr.mono (by omega)) (by rfl) T.t_q11.g T.t_q11.F.kp T.t_q11.b tk (ra_cons (re_meth0 T.g_Program T.cl_Program T.m_q0 (ok_q0 T TB) (hr.mono (by omega)) T.t_q0.b tk (re_var 4)) (ra_cons (re_var 3) ra_nil)) (aC_len (aC_len aN_len))))))))) (rss_one (rs_ret re_bl)) rss_nil)
   (rss_cons (rs_if (rt_of (rw_or (rt_neOwn T.g_Program T.oc_Program (ok_q16 T TB) T.t_q16.b (hr.mono (by omega)) (re_callKw (gP:=(fun qs => match qs with | [x0,x1] => [x1,x0] | _ => [])) (ok_q30 T TB) (hr.mono (by omega)) (by rfl) T.t_q30.g T.t_q30.F.kp T.kf_edited_0_edit_program tk kbgp_edited_0_edit_program (rk_cons (re_var 6) (rk_cons (re_var 4) rk_nil)) (aC_len (aC_len aN_len))) (re_var 8)) (rw_or1 (rt_not (rt_tru (re_call (ok_q11 T TB 14) (hr.mono (by omega)) (by rfl) T.t_q11.g T.t_q11.F.kp T.t_q11.b tk (ra_cons (re_eqOwn T.g_Program T.oc_Program (ok_q16 T TB) T.t_q16.b (hr.mono (by omega)) (re_var 8) (re_make T.mk_Program (ok_q4 T TB) (hr.mono (by omega)) (by rfl) T.g_Program T.t_q4.b tk (ra_cons (re_var 7) ra_nil) (aC_len aN_len))) (ra_cons re_bl ra_nil)) (aC_len (aC_len aN_len)))))))) (rss_one (rs_ret re_bl)) rss_nil)
   (rss_cons (rs_set 3 nd rfl (by first | exact .inl rfl | exact .inr rfl) (re_var 7))
   (rss_one (rs_set 4 nd rfl (by first | exact .inl rfl | exact .inr rfl) (re_var 8))))))))))))))
   (rss_one (rs_ret re_bl))))
end
set_option maxHeartbeats 4000000 in
noncomputable def mkTx {K:PySem.W.Frag} {w:World} {h:Heap} {mg:Str→Option Value} (X:K.In h) (G:h.Ns mainGlobals mg) {f_q29:Addr} {oc_q29 kV_q29 dc_q29 pm_q29 cd_q29 ct_q29:Value} {od_q29 an_q29:Option Addr} {sl_q29:Array (Option Value)} {f_q26:Addr} {oc_q26 kV_q26 dc_q26 pm_q26 cd_q26 ct_q26:Value} {od_q26 an_q26:Option Addr} {sl_q26:Array (Option Value)} {f_q27:Addr} {oc_q27 kV_q27 dc_q27 pm_q27 cd_q27 ct_q27:Value} {od_q27 an_q27:Option Addr} {sl_q27:Array (Option Value)} {f_q6:Addr} {oc_q6 kV_q6 dc_q6 pm_q6 cd_q6 ct_q6:Value} {od_q6 an_q6:Option Addr} {sl_q6:Array (Option Value)} {f_q28:Addr} {oc_q28 kV_q28 dc_q28 pm_q28 cd_q28 ct_q28:Value} {od_q28 an_q28:Option Addr} {sl_q28:Array (Option Value)} {f_q24:Addr} {oc_q24 kV_q24 dc_q24 pm_q24 cd_q24 ct_q24:Value} {od_q24 an_q24:Option Addr} {sl_q24:Array (Option Value)} {f_q23:Addr} {oc_q23 kV_q23 dc_q23 pm_q23 cd_q23 ct_q23:Value} {od_q23 an_q23:Option Addr} {sl_q23:Array (Option Value)} {f_q4:Addr} {oc_q4 kV_q4 dc_q4 pm_q4 cd_q4 ct_q4:Value} {od_q4 an_q4:Option Addr} {sl_q4:Array (Option Value)} {f_q0:Addr} {oc_q0 kV_q0 dc_q0 pm_q0 cd_q0 ct_q0:Value} {od_q0 an_q0:Option Addr} {sl_q0:Array (Option Value)} {f_q16:Addr} {oc_q16 kV_q16 dc_q16 pm_q16 cd_q16 ct_q16:Value} {od_q16 an_q16:Option Addr} {sl_q16:Array (Option Value)} {f_changed:Addr} {oc_changed kV_changed dc_changed pm_changed cd_changed ct_changed:Value} {od_changed an_changed:Option Addr} {sl_changed:Array (Option Value)} {f_q7:Addr} {oc_q7 kV_q7 dc_q7 pm_q7 ct_q7:Value} {od_q7 an_q7:Option Addr} {sl_q7:Array (Option Value)} {f_q30:Addr} {oc_q30 kV_q30 dc_q30 pm_q30 cd_q30 ct_q30:Value} {od_q30 an_q30:Option Addr} {sl_q30:Array (Option Value)} {f_q17:Addr} {oc_q17 kV_q17 dc_q17 pm_q17 cd_q17 ct_q17:Value} {od_q17 an_q17:Option Addr} {sl_q17:Array (Option Value)} {f_q20:Addr} {oc_q20 kV_q20 dc_q20 pm_q20 cd_q20 ct_q20:Value} {od_q20 an_q20:Option Addr} {sl_q20:Array (Option Value)} {f_q15:Addr} {oc_q15 kV_q15 dc_q15 pm_q15 cd_q15 ct_q15:Value} {od_q15 an_q15:Option Addr} {sl_q15:Array (Option Value)} {f_q11:Addr} {oc_q11 kV_q11 dc_q11 pm_q11 cd_q11 ct_q11:Value} {od_q11 an_q11:Option Addr} {sl_q11:Array (Option Value)} {f_q22:Addr} {oc_q22 kV_q22 dc_q22 pm_q22 cd_q22 ct_q22:Value} {od_q22 an_q22:Option Addr} {sl_q22:Array (Option Value)} {f_q8:Addr} {oc_q8 kV_q8 dc_q8 pm_q8 cd_q8 ct_q8:Value} {od_q8 an_q8:Option Addr} {sl_q8:Array (Option Value)} {f_q10:Addr} {oc_q10 kV_q10 dc_q10 pm_q10 cd_q10 ct_q10:Value} {od_q10 an_q10:Option Addr} {sl_q10:Array (Option Value)} {f_q13:Addr} {oc_q13 kV_q13 dc_q13 pm_q13 cd_q13 ct_q13:Value} {od_q13 an_q13:Option Addr} {sl_q13:Array (Option Value)} {f_q25:Addr} {oc_q25 kV_q25 dc_q25 pm_q25 cd_q25 ct_q25:Value} {od_q25 an_q25:Option Addr} {sl_q25:Array (Option Value)} {f_q18:Addr} {oc_q18 kV_q18 dc_q18 pm_q18 cd_q18 ct_q18:Value} {od_q18 an_q18:Option Addr} {sl_q18:Array (Option Value)} {f_q3:Addr} {oc_q3 kV_q3 dc_q3 pm_q3 cd_q3 ct_q3:Value} {od_q3 an_q3:Option Addr} {sl_q3:Array (Option Value)} {f_q19:Addr} {oc_q19 kV_q19 dc_q19 pm_q19 cd_q19 ct_q19:Value} {od_q19 an_q19:Option Addr} {sl_q19:Array (Option Value)} {f_q9:Addr} {oc_q9 kV_q9 dc_q9 pm_q9 cd_q9 ct_q9:Value} {od_q9 an_q9:Option Addr} {sl_q9:Array (Option Value)} {f_q14:Addr} {oc_q14 kV_q14 dc_q14 pm_q14 cd_q14 ct_q14:Value} {od_q14 an_q14:Option Addr} {sl_q14:Array (Option Value)} {f_q12:Addr} {oc_q12 kV_q12 dc_q12 pm_q12 cd_q12 ct_q12:Value} {od_q12 an_q12:Option Addr} {sl_q12:Array (Option Value)} {f_q1:Addr} {oc_q1 kV_q1 dc_q1 pm_q1 cd_q1 ct_q1:Value} {od_q1 an_q1:Option Addr} {sl_q1:Array (Option Value)} {f_q5:Addr} {oc_q5 kV_q5 dc_q5 pm_q5 cd_q5 ct_q5:Value} {od_q5 an_q5:Option Addr} {sl_q5:Array (Option Value)} {f_q2:Addr} {oc_q2 kV_q2 dc_q2 pm_q2 cd_q2 ct_q2:Value} {od_q2 an_q2:Option Addr} {sl_q2:Array (Option Value)} {f_q21:Addr} {oc_q21 kV_q21 dc_q21 pm_q21 cd_q21 ct_q21:Value} {od_q21 an_q21:Option Addr} {sl_q21:Array (Option Value)} {f_law:Addr} {oc_law kV_law dc_law pm_law cd_law ct_law:Value} {od_law an_law:Option Addr} {sl_law:Array (Option Value)} {C_Program:Addr} {f_einit:Addr} {oc_einit kV_einit dc_einit pm_einit cd_einit ct_einit:Value} {od_einit an_einit:Option Addr} {sl_einit:Array (Option Value)} {E_NoProgram N_NoProgram:Addr} {nm_NoProgram qn_NoProgram:Str} {bs_NoProgram bm_NoProgram sub_NoProgram:List Value} {sn_NoProgram:List Str} {ab_NoProgram:Bool} {col_NoProgram:Option Bool} {dd_NoProgram:Option Addr} {m0_NoProgram m1_NoProgram m2_NoProgram m3_NoProgram m5_NoProgram:Option Value} {E_NoPlace N_NoPlace:Addr} {nm_NoPlace qn_NoPlace:Str} {bs_NoPlace bm_NoPlace sub_NoPlace:List Value} {sn_NoPlace:List Str} {ab_NoPlace:Bool} {col_NoPlace:Option Bool} {dd_NoPlace:Option Addr} {m0_NoPlace m1_NoPlace m2_NoPlace m3_NoPlace m5_NoPlace:Option Value} {E_AskError N_AskError:Addr} {nm_AskError qn_AskError:Str} {bs_AskError bm_AskError sub_AskError:List Value} {sn_AskError:List Str} {ab_AskError:Bool} {col_AskError:Option Bool} {dd_AskError:Option Addr} {m0_AskError m1_AskError m2_AskError m3_AskError m5_AskError:Option Value} {k_LETTERS:Tok} {k_MOST_LETTERS:Tok} {k_MAIN:Tok} {cT pT:Addr}
 (l_q29:K.lookup f_q29 = some ⟨oc_q29,od_q29,.func (PySem.W.fnOf "is_name" "is_name" (defArgs (topS 8)) (defBody (topS 8)) (defScope (topS 8)) .none kV_q29 dc_q29 pm_q29 an_q29 cd_q29 ct_q29),sl_q29⟩) (c_q29:PySem.W.codeIn K cd_q29 "is_name" = true) (k_q29:PySem.W.keepIn K (.ref f_q29) = true)
 (a_q29:PySem.W.nsIn K mainGlobals "is_name" = some (some (.ref f_q29)))
 (l_q26:K.lookup f_q26 = some ⟨oc_q26,od_q26,.func (PySem.W.fnOf "each_row" "each_row" (defArgs (topS 9)) (defBody (topS 9)) (defScope (topS 9)) .none kV_q26 dc_q26 pm_q26 an_q26 cd_q26 ct_q26),sl_q26⟩) (c_q26:PySem.W.codeIn K cd_q26 "each_row" = true) (k_q26:PySem.W.keepIn K (.ref f_q26) = true)
 (a_q26:PySem.W.nsIn K mainGlobals "each_row" = some (some (.ref f_q26)))
 (l_q27:K.lookup f_q27 = some ⟨oc_q27,od_q27,.func (PySem.W.fnOf "size_of" "size_of" (defArgs (topS 10)) (defBody (topS 10)) (defScope (topS 10)) .none kV_q27 dc_q27 pm_q27 an_q27 cd_q27 ct_q27),sl_q27⟩) (c_q27:PySem.W.codeIn K cd_q27 "size_of" = true) (k_q27:PySem.W.keepIn K (.ref f_q27) = true)
 (a_q27:PySem.W.nsIn K mainGlobals "size_of" = some (some (.ref f_q27)))
 (l_q6:K.lookup f_q6 = some ⟨oc_q6,od_q6,.func (PySem.W.fnOf "names_asked" "names_asked" (defArgs (topS 11)) (defBody (topS 11)) (defScope (topS 11)) .none kV_q6 dc_q6 pm_q6 an_q6 cd_q6 ct_q6),sl_q6⟩) (c_q6:PySem.W.codeIn K cd_q6 "names_asked" = true) (k_q6:PySem.W.keepIn K (.ref f_q6) = true)
 (a_q6:PySem.W.nsIn K mainGlobals "names_asked" = some (some (.ref f_q6)))
 (l_q28:K.lookup f_q28 = some ⟨oc_q28,od_q28,.func (PySem.W.fnOf "call_of" "call_of" (defArgs (topS 12)) (defBody (topS 12)) (defScope (topS 12)) .none kV_q28 dc_q28 pm_q28 an_q28 cd_q28 ct_q28),sl_q28⟩) (c_q28:PySem.W.codeIn K cd_q28 "call_of" = true) (k_q28:PySem.W.keepIn K (.ref f_q28) = true)
 (a_q28:PySem.W.nsIn K mainGlobals "call_of" = some (some (.ref f_q28)))
 (l_q24:K.lookup f_q24 = some ⟨oc_q24,od_q24,.func (PySem.W.fnOf "names_in" "names_in" (defArgs (topS 13)) (defBody (topS 13)) (defScope (topS 13)) .none kV_q24 dc_q24 pm_q24 an_q24 cd_q24 ct_q24),sl_q24⟩) (c_q24:PySem.W.codeIn K cd_q24 "names_in" = true) (k_q24:PySem.W.keepIn K (.ref f_q24) = true)
 (a_q24:PySem.W.nsIn K mainGlobals "names_in" = some (some (.ref f_q24)))
 (l_q23:K.lookup f_q23 = some ⟨oc_q23,od_q23,.func (PySem.W.fnOf "is_sound" "is_sound" (defArgs (topS 14)) (defBody (topS 14)) (defScope (topS 14)) .none kV_q23 dc_q23 pm_q23 an_q23 cd_q23 ct_q23),sl_q23⟩) (c_q23:PySem.W.codeIn K cd_q23 "is_sound" = true) (k_q23:PySem.W.keepIn K (.ref f_q23) = true)
 (a_q23:PySem.W.nsIn K mainGlobals "is_sound" = some (some (.ref f_q23)))
 (l_q4:K.lookup f_q4 = some ⟨oc_q4,od_q4,.func (PySem.W.fnOf "__init__" "Program.__init__" (defArgs (inClass (topS 15) 0)) (defBody (inClass (topS 15) 0)) (defScope (inClass (topS 15) 0)) .none kV_q4 dc_q4 pm_q4 an_q4 cd_q4 ct_q4),sl_q4⟩) (c_q4:PySem.W.codeIn K cd_q4 "Program.__init__" = true) (k_q4:PySem.W.keepIn K (.ref f_q4) = true)
 (l_q0:K.lookup f_q0 = some ⟨oc_q0,od_q0,.func (PySem.W.fnOf "definitions" "Program.definitions" (defArgs (inClass (topS 15) 1)) (defBody (inClass (topS 15) 1)) (defScope (inClass (topS 15) 1)) .none kV_q0 dc_q0 pm_q0 an_q0 cd_q0 ct_q0),sl_q0⟩) (c_q0:PySem.W.codeIn K cd_q0 "Program.definitions" = true) (k_q0:PySem.W.keepIn K (.ref f_q0) = true)
 (l_q16:K.lookup f_q16 = some ⟨oc_q16,od_q16,.func (PySem.W.fnOf "__eq__" "Program.__eq__" (defArgs (inClass (topS 15) 5)) (defBody (inClass (topS 15) 5)) (defScope (inClass (topS 15) 5)) .none kV_q16 dc_q16 pm_q16 an_q16 cd_q16 ct_q16),sl_q16⟩) (c_q16:PySem.W.codeIn K cd_q16 "Program.__eq__" = true) (k_q16:PySem.W.keepIn K (.ref f_q16) = true)
 (l_changed:K.lookup f_changed = some ⟨oc_changed,od_changed,.func (PySem.W.fnOf "changed" "changed" (defArgs (topS 17)) (defBody (topS 17)) (defScope (topS 17)) .none kV_changed dc_changed pm_changed an_changed cd_changed ct_changed),sl_changed⟩) (c_changed:PySem.W.codeIn K cd_changed "changed" = true) (k_changed:PySem.W.keepIn K (.ref f_changed) = true)
 (a_changed:PySem.W.nsIn K mainGlobals "changed" = some (some (.ref f_changed)))
 (l_q7:K.lookup f_q7 = some ⟨oc_q7,od_q7,.func (PySem.W.fnOf "rows_edited" "rows_edited" (defArgs (topS 18)) (defBody (topS 18)) (defScope (topS 18)) .none kV_q7 dc_q7 pm_q7 an_q7 (.ref cT) ct_q7),sl_q7⟩) (c_q7:PySem.W.codeIn K (.ref cT) "rows_edited" = true) (k_q7:PySem.W.keepIn K (.ref f_q7) = true)
 (a_q7:PySem.W.nsIn K mainGlobals "rows_edited" = some (some (.ref f_q7)))
 (l_q30:K.lookup f_q30 = some ⟨oc_q30,od_q30,.func (PySem.W.fnOf "edited" "edited" (defArgs (topS 19)) (defBody (topS 19)) (defScope (topS 19)) .none kV_q30 dc_q30 pm_q30 an_q30 cd_q30 ct_q30),sl_q30⟩) (c_q30:PySem.W.codeIn K cd_q30 "edited" = true) (k_q30:PySem.W.keepIn K (.ref f_q30) = true)
 (a_q30:PySem.W.nsIn K mainGlobals "edited" = some (some (.ref f_q30)))
 (l_q17:K.lookup f_q17 = some ⟨oc_q17,od_q17,.func (PySem.W.fnOf "_law_tray" "_law_tray" (defArgs (topS 21)) (defBody (topS 21)) (defScope (topS 21)) .none kV_q17 dc_q17 pm_q17 an_q17 cd_q17 ct_q17),sl_q17⟩) (c_q17:PySem.W.codeIn K cd_q17 "_law_tray" = true) (k_q17:PySem.W.keepIn K (.ref f_q17) = true)
 (a_q17:PySem.W.nsIn K mainGlobals "_law_tray" = some (some (.ref f_q17)))
 (l_q20:K.lookup f_q20 = some ⟨oc_q20,od_q20,.func (PySem.W.fnOf "_law_draw" "_law_draw" (defArgs (topS 22)) (defBody (topS 22)) (defScope (topS 22)) .none kV_q20 dc_q20 pm_q20 an_q20 cd_q20 ct_q20),sl_q20⟩) (c_q20:PySem.W.codeIn K cd_q20 "_law_draw" = true) (k_q20:PySem.W.keepIn K (.ref f_q20) = true)
 (a_q20:PySem.W.nsIn K mainGlobals "_law_draw" = some (some (.ref f_q20)))
 (l_q15:K.lookup f_q15 = some ⟨oc_q15,od_q15,.func (PySem.W.fnOf "_law_great" "_law_great" (defArgs (topS 23)) (defBody (topS 23)) (defScope (topS 23)) .none kV_q15 dc_q15 pm_q15 an_q15 cd_q15 ct_q15),sl_q15⟩) (c_q15:PySem.W.codeIn K cd_q15 "_law_great" = true) (k_q15:PySem.W.keepIn K (.ref f_q15) = true)
 (a_q15:PySem.W.nsIn K mainGlobals "_law_great" = some (some (.ref f_q15)))
 (l_q11:K.lookup f_q11 = some ⟨oc_q11,od_q11,.func (PySem.W.fnOf "_law_alike" "_law_alike" (defArgs (topS 24)) (defBody (topS 24)) (defScope (topS 24)) .none kV_q11 dc_q11 pm_q11 an_q11 cd_q11 ct_q11),sl_q11⟩) (c_q11:PySem.W.codeIn K cd_q11 "_law_alike" = true) (k_q11:PySem.W.keepIn K (.ref f_q11) = true)
 (a_q11:PySem.W.nsIn K mainGlobals "_law_alike" = some (some (.ref f_q11)))
 (l_q22:K.lookup f_q22 = some ⟨oc_q22,od_q22,.func (PySem.W.fnOf "_law_name" "_law_name" (defArgs (topS 25)) (defBody (topS 25)) (defScope (topS 25)) .none kV_q22 dc_q22 pm_q22 an_q22 cd_q22 ct_q22),sl_q22⟩) (c_q22:PySem.W.codeIn K cd_q22 "_law_name" = true) (k_q22:PySem.W.keepIn K (.ref f_q22) = true)
 (a_q22:PySem.W.nsIn K mainGlobals "_law_name" = some (some (.ref f_q22)))
 (l_q8:K.lookup f_q8 = some ⟨oc_q8,od_q8,.func (PySem.W.fnOf "_law_names" "_law_names" (defArgs (topS 26)) (defBody (topS 26)) (defScope (topS 26)) .none kV_q8 dc_q8 pm_q8 an_q8 cd_q8 ct_q8),sl_q8⟩) (c_q8:PySem.W.codeIn K cd_q8 "_law_names" = true) (k_q8:PySem.W.keepIn K (.ref f_q8) = true)
 (a_q8:PySem.W.nsIn K mainGlobals "_law_names" = some (some (.ref f_q8)))
 (l_q10:K.lookup f_q10 = some ⟨oc_q10,od_q10,.func (PySem.W.fnOf "_law_whole" "_law_whole" (defArgs (topS 27)) (defBody (topS 27)) (defScope (topS 27)) .none kV_q10 dc_q10 pm_q10 an_q10 cd_q10 ct_q10),sl_q10⟩) (c_q10:PySem.W.codeIn K cd_q10 "_law_whole" = true) (k_q10:PySem.W.keepIn K (.ref f_q10) = true)
 (a_q10:PySem.W.nsIn K mainGlobals "_law_whole" = some (some (.ref f_q10)))
 (l_q13:K.lookup f_q13 = some ⟨oc_q13,od_q13,.func (PySem.W.fnOf "_law_value" "_law_value" (defArgs (topS 28)) (defBody (topS 28)) (defScope (topS 28)) .none kV_q13 dc_q13 pm_q13 an_q13 cd_q13 ct_q13),sl_q13⟩) (c_q13:PySem.W.codeIn K cd_q13 "_law_value" = true) (k_q13:PySem.W.keepIn K (.ref f_q13) = true)
 (a_q13:PySem.W.nsIn K mainGlobals "_law_value" = some (some (.ref f_q13)))
 (l_q25:K.lookup f_q25 = some ⟨oc_q25,od_q25,.func (PySem.W.fnOf "_law_row" "_law_row" (defArgs (topS 29)) (defBody (topS 29)) (defScope (topS 29)) .none kV_q25 dc_q25 pm_q25 an_q25 cd_q25 ct_q25),sl_q25⟩) (c_q25:PySem.W.codeIn K cd_q25 "_law_row" = true) (k_q25:PySem.W.keepIn K (.ref f_q25) = true)
 (a_q25:PySem.W.nsIn K mainGlobals "_law_row" = some (some (.ref f_q25)))
 (l_q18:K.lookup f_q18 = some ⟨oc_q18,od_q18,.func (PySem.W.fnOf "_law_rows" "_law_rows" (defArgs (topS 30)) (defBody (topS 30)) (defScope (topS 30)) .none kV_q18 dc_q18 pm_q18 an_q18 cd_q18 ct_q18),sl_q18⟩) (c_q18:PySem.W.codeIn K cd_q18 "_law_rows" = true) (k_q18:PySem.W.keepIn K (.ref f_q18) = true)
 (a_q18:PySem.W.nsIn K mainGlobals "_law_rows" = some (some (.ref f_q18)))
 (l_q3:K.lookup f_q3 = some ⟨oc_q3,od_q3,.func (PySem.W.fnOf "_law_program" "_law_program" (defArgs (topS 31)) (defBody (topS 31)) (defScope (topS 31)) .none kV_q3 dc_q3 pm_q3 an_q3 cd_q3 ct_q3),sl_q3⟩) (c_q3:PySem.W.codeIn K cd_q3 "_law_program" = true) (k_q3:PySem.W.keepIn K (.ref f_q3) = true)
 (a_q3:PySem.W.nsIn K mainGlobals "_law_program" = some (some (.ref f_q3)))
 (l_q19:K.lookup f_q19 = some ⟨oc_q19,od_q19,.func (PySem.W.fnOf "_law_each" "_law_each" (defArgs (topS 32)) (defBody (topS 32)) (defScope (topS 32)) .none kV_q19 dc_q19 pm_q19 an_q19 cd_q19 ct_q19),sl_q19⟩) (c_q19:PySem.W.codeIn K cd_q19 "_law_each" = true) (k_q19:PySem.W.keepIn K (.ref f_q19) = true)
 (a_q19:PySem.W.nsIn K mainGlobals "_law_each" = some (some (.ref f_q19)))
 (l_q9:K.lookup f_q9 = some ⟨oc_q9,od_q9,.func (PySem.W.fnOf "_law_loose" "_law_loose" (defArgs (topS 33)) (defBody (topS 33)) (defScope (topS 33)) .none kV_q9 dc_q9 pm_q9 an_q9 cd_q9 ct_q9),sl_q9⟩) (c_q9:PySem.W.codeIn K cd_q9 "_law_loose" = true) (k_q9:PySem.W.keepIn K (.ref f_q9) = true)
 (a_q9:PySem.W.nsIn K mainGlobals "_law_loose" = some (some (.ref f_q9)))
 (l_q14:K.lookup f_q14 = some ⟨oc_q14,od_q14,.func (PySem.W.fnOf "_law_bound" "_law_bound" (defArgs (topS 34)) (defBody (topS 34)) (defScope (topS 34)) .none kV_q14 dc_q14 pm_q14 an_q14 cd_q14 ct_q14),sl_q14⟩) (c_q14:PySem.W.codeIn K cd_q14 "_law_bound" = true) (k_q14:PySem.W.keepIn K (.ref f_q14) = true)
 (a_q14:PySem.W.nsIn K mainGlobals "_law_bound" = some (some (.ref f_q14)))
 (l_q12:K.lookup f_q12 = some ⟨oc_q12,od_q12,.func (PySem.W.fnOf "_law_spots" "_law_spots" (defArgs (topS 35)) (defBody (topS 35)) (defScope (topS 35)) .none kV_q12 dc_q12 pm_q12 an_q12 cd_q12 ct_q12),sl_q12⟩) (c_q12:PySem.W.codeIn K cd_q12 "_law_spots" = true) (k_q12:PySem.W.keepIn K (.ref f_q12) = true)
 (a_q12:PySem.W.nsIn K mainGlobals "_law_spots" = some (some (.ref f_q12)))
 (l_q1:K.lookup f_q1 = some ⟨oc_q1,od_q1,.func (PySem.W.fnOf "_law_rows_edited" "_law_rows_edited" (defArgs (topS 36)) (defBody (topS 36)) (defScope (topS 36)) .none kV_q1 dc_q1 pm_q1 an_q1 cd_q1 ct_q1),sl_q1⟩) (c_q1:PySem.W.codeIn K cd_q1 "_law_rows_edited" = true) (k_q1:PySem.W.keepIn K (.ref f_q1) = true)
 (a_q1:PySem.W.nsIn K mainGlobals "_law_rows_edited" = some (some (.ref f_q1)))
 (l_q5:K.lookup f_q5 = some ⟨oc_q5,od_q5,.func (PySem.W.fnOf "_law_edited" "_law_edited" (defArgs (topS 37)) (defBody (topS 37)) (defScope (topS 37)) .none kV_q5 dc_q5 pm_q5 an_q5 cd_q5 ct_q5),sl_q5⟩) (c_q5:PySem.W.codeIn K cd_q5 "_law_edited" = true) (k_q5:PySem.W.keepIn K (.ref f_q5) = true)
 (a_q5:PySem.W.nsIn K mainGlobals "_law_edited" = some (some (.ref f_q5)))
 (l_q2:K.lookup f_q2 = some ⟨oc_q2,od_q2,.func (PySem.W.fnOf "_law_new_row" "_law_new_row" (defArgs (topS 38)) (defBody (topS 38)) (defScope (topS 38)) .none kV_q2 dc_q2 pm_q2 an_q2 cd_q2 ct_q2),sl_q2⟩) (c_q2:PySem.W.codeIn K cd_q2 "_law_new_row" = true) (k_q2:PySem.W.keepIn K (.ref f_q2) = true)
 (a_q2:PySem.W.nsIn K mainGlobals "_law_new_row" = some (some (.ref f_q2)))
 (l_q21:K.lookup f_q21 = some ⟨oc_q21,od_q21,.func (PySem.W.fnOf "_law_edit" "_law_edit" (defArgs (topS 39)) (defBody (topS 39)) (defScope (topS 39)) .none kV_q21 dc_q21 pm_q21 an_q21 cd_q21 ct_q21),sl_q21⟩) (c_q21:PySem.W.codeIn K cd_q21 "_law_edit" = true) (k_q21:PySem.W.keepIn K (.ref f_q21) = true)
 (a_q21:PySem.W.nsIn K mainGlobals "_law_edit" = some (some (.ref f_q21)))
 (l_law:K.lookup f_law = some ⟨oc_law,od_law,.func (PySem.W.fnOf "law" "law" (defArgs (topS 40)) (defBody (topS 40)) (defScope (topS 40)) .none kV_law dc_law pm_law an_law cd_law ct_law),sl_law⟩) (c_law:PySem.W.codeIn K cd_law "law" = true) (k_law:PySem.W.keepIn K (.ref f_law) = true)
 (a_law:PySem.W.nsIn K mainGlobals "law" = some (some (.ref f_law)))
 (a_Program:PySem.W.nsIn K mainGlobals "Program" = some (some (.ref C_Program))) (pg_Program:PySem.W.plainGet K C_Program Str.empty = true) (hd_Program:PySem.W.hasDictIn K C_Program = true) (po_Program:PySem.W.plainOver K C_Program = true) (sa_Program:PySem.W.findIn K (.ref C_Program) "__setattr__" = some (some (.builtin "object.__setattr__"))) (mk_Program:PySem.W.makesIn K C_Program = true) (kc_Program:PySem.W.keepIn K (.ref C_Program) = true)
 (at_Program_init:PySem.W.findIn K (.ref C_Program) "__init__" = some (some (.ref f_q4))) (i_Program_init:PySem.W.isFn K (.ref f_q4) = true)
 (at_Program_definitions:PySem.W.findIn K (.ref C_Program) "definitions" = some (some (.ref f_q0))) (i_Program_definitions:PySem.W.isFn K (.ref f_q0) = true)
 (at_Program_eq:PySem.W.findIn K (.ref C_Program) "__eq__" = some (some (.ref f_q16))) (i_Program_eq:PySem.W.isFn K (.ref f_q16) = true)
 (one_Program:PySem.W.findIn K (.ref C_Program) "__ne__" = some (some (.builtin "object.__ne__"))) (oob_Program:PySem.W.mroIn K C_Program (.type "object") = some true)
 (na_definitions_kept:PySem.W.findIn K (.ref C_Program) "definitions_kept" = some none)
 (l_einit:K.lookup f_einit = some ⟨oc_einit,od_einit,.func (PySem.W.fnOf "__init__" "AskError.__init__" (defArgs (inClass (topS 1) 0)) (defBody (inClass (topS 1) 0)) (defScope (inClass (topS 1) 0)) .none kV_einit dc_einit pm_einit an_einit cd_einit ct_einit),sl_einit⟩) (c_einit:PySem.W.codeIn K cd_einit "AskError.__init__" = true) (k_einit:PySem.W.keepIn K (.ref f_einit) = true) (ti_einit:PySem.W.typeIn K (.ref f_einit) = some (.type "function"))
 (cg:PySem.W.specialIn K (.builtin "object.__class__") "__get__" = some (some (.builtin "getset_descriptor.__get__"))) (cta:PySem.W.takesIn K (.builtin "object.__class__") = some true)
 (a_NoProgram:PySem.W.nsIn K mainGlobals "NoProgram" = some (some (.ref E_NoProgram))) (xl_NoProgram:K.lookup E_NoProgram = some (PySem.excClassObj nm_NoProgram qn_NoProgram E_NoProgram N_NoProgram bs_NoProgram bm_NoProgram true sn_NoProgram sub_NoProgram ab_NoProgram col_NoProgram dd_NoProgram m0_NoProgram m1_NoProgram m2_NoProgram m3_NoProgram m5_NoProgram "ValueError.__new__")) (rv_NoProgram:PySem.HandSPX.refsVE bm_NoProgram = true)
 (sa_NoProgram:PySem.W.findIn K (.ref E_NoProgram) "__setattr__" = some (some (.builtin "object.__setattr__"))) (be_NoProgram:PySem.W.subIn K (.ref E_NoProgram) (.type "BaseException") = some true) (ty_NoProgram:PySem.W.typeIn K (.ref E_NoProgram) = some (.type "type")) (kp_NoProgram:PySem.W.keepIn K (.ref E_NoProgram) = true) (at_xNoProgram:PySem.W.findIn K (.ref E_NoProgram) "__init__" = some (some (.ref f_einit))) (wn_NoProgram:PySem.W.findIn K (.ref E_NoProgram) "what" = some none) (hx_NoProgram:PySem.W.hasDictIn K E_NoProgram = true)
 (a_NoPlace:PySem.W.nsIn K mainGlobals "NoPlace" = some (some (.ref E_NoPlace))) (xl_NoPlace:K.lookup E_NoPlace = some (PySem.excClassObj nm_NoPlace qn_NoPlace E_NoPlace N_NoPlace bs_NoPlace bm_NoPlace true sn_NoPlace sub_NoPlace ab_NoPlace col_NoPlace dd_NoPlace m0_NoPlace m1_NoPlace m2_NoPlace m3_NoPlace m5_NoPlace "ValueError.__new__")) (rv_NoPlace:PySem.HandSPX.refsVE bm_NoPlace = true)
 (sa_NoPlace:PySem.W.findIn K (.ref E_NoPlace) "__setattr__" = some (some (.builtin "object.__setattr__"))) (be_NoPlace:PySem.W.subIn K (.ref E_NoPlace) (.type "BaseException") = some true) (ty_NoPlace:PySem.W.typeIn K (.ref E_NoPlace) = some (.type "type")) (kp_NoPlace:PySem.W.keepIn K (.ref E_NoPlace) = true) (at_xNoPlace:PySem.W.findIn K (.ref E_NoPlace) "__init__" = some (some (.ref f_einit))) (wn_NoPlace:PySem.W.findIn K (.ref E_NoPlace) "what" = some none) (hx_NoPlace:PySem.W.hasDictIn K E_NoPlace = true)
 (a_AskError:PySem.W.nsIn K mainGlobals "AskError" = some (some (.ref E_AskError))) (xl_AskError:K.lookup E_AskError = some (PySem.excClassObj nm_AskError qn_AskError E_AskError N_AskError bs_AskError bm_AskError true sn_AskError sub_AskError ab_AskError col_AskError dd_AskError m0_AskError m1_AskError m2_AskError m3_AskError m5_AskError "ValueError.__new__")) (rv_AskError:PySem.HandSPX.refsVE bm_AskError = true)
 (sa_AskError:PySem.W.findIn K (.ref E_AskError) "__setattr__" = some (some (.builtin "object.__setattr__"))) (be_AskError:PySem.W.subIn K (.ref E_AskError) (.type "BaseException") = some true) (ty_AskError:PySem.W.typeIn K (.ref E_AskError) = some (.type "type")) (kp_AskError:PySem.W.keepIn K (.ref E_AskError) = true) (at_xAskError:PySem.W.findIn K (.ref E_AskError) "__init__" = some (some (.ref f_einit))) (wn_AskError:PySem.W.findIn K (.ref E_AskError) "what" = some none) (hx_AskError:PySem.W.hasDictIn K E_AskError = true)
 (c_LETTERS:PySem.W.nsIn K mainGlobals "LETTERS" = some (some (.str "abcdefghijklmnopqrstuvwxyz" k_LETTERS)))
 (c_MOST_LETTERS:PySem.W.nsIn K mainGlobals "MOST_LETTERS" = some (some (.int 8 k_MOST_LETTERS)))
 (c_MAIN:PySem.W.nsIn K mainGlobals "MAIN" = some (some (.str "main" k_MAIN)))
 (n_all:PySem.W.nsIn K mainGlobals "all" = some none)
 (n_bool:PySem.W.nsIn K mainGlobals "bool" = some none)
 (n_enumerate:PySem.W.nsIn K mainGlobals "enumerate" = some none)
 (n_int:PySem.W.nsIn K mainGlobals "int" = some none)
 (n_isinstance:PySem.W.nsIn K mainGlobals "isinstance" = some none)
 (n_len:PySem.W.nsIn K mainGlobals "len" = some none)
 (n_list:PySem.W.nsIn K mainGlobals "list" = some none)
 (n_max:PySem.W.nsIn K mainGlobals "max" = some none)
 (n_min:PySem.W.nsIn K mainGlobals "min" = some none)
 (n_range:PySem.W.nsIn K mainGlobals "range" = some none)
 (n_set:PySem.W.nsIn K mainGlobals "set" = some none)
 (n_str:PySem.W.nsIn K mainGlobals "str" = some none)
 (n_tuple:PySem.W.nsIn K mainGlobals "tuple" = some none)
 (hcP:PySem.W.codeHdIn K cT pT = true):Tx K mg w :=
 {t_q29:=⟨⟨f_q29,_,fun_mk (st:=topS 8) l_q29 c_q29 k_q29,(fun_mk (st:=topS 8) l_q29 c_q29 k_q29).binds (fun _ _ _ _ _ _ us hl => match us,hl with | [_],_ => rfl)⟩,PySem.W.mg_of X G a_q29⟩,t_q26:=⟨⟨f_q26,_,fun_mk (st:=topS 9) l_q26 c_q26 k_q26,(fun_mk (st:=topS 9) l_q26 c_q26 k_q26).binds (fun _ _ _ _ _ _ us hl => match us,hl with | [_],_ => rfl)⟩,PySem.W.mg_of X G a_q26⟩,t_q27:=⟨⟨f_q27,_,fun_mk (st:=topS 10) l_q27 c_q27 k_q27,(fun_mk (st:=topS 10) l_q27 c_q27 k_q27).binds (fun _ _ _ _ _ _ us hl => match us,hl with | [_],_ => rfl)⟩,PySem.W.mg_of X G a_q27⟩,t_q6:=⟨⟨f_q6,_,fun_mk (st:=topS 11) l_q6 c_q6 k_q6,(fun_mk (st:=topS 11) l_q6 c_q6 k_q6).binds (fun _ _ _ _ _ _ us hl => match us,hl with | [_],_ => rfl)⟩,PySem.W.mg_of X G a_q6⟩,t_q28:=⟨⟨f_q28,_,fun_mk (st:=topS 12) l_q28 c_q28 k_q28,(fun_mk (st:=topS 12) l_q28 c_q28 k_q28).binds (fun _ _ _ _ _ _ us hl => match us,hl with | [_],_ => rfl)⟩,PySem.W.mg_of X G a_q28⟩,t_q24:=⟨⟨f_q24,_,fun_mk (st:=topS 13) l_q24 c_q24 k_q24,(fun_mk (st:=topS 13) l_q24 c_q24 k_q24).binds (fun _ _ _ _ _ _ us hl => match us,hl with | [_],_ => rfl)⟩,PySem.W.mg_of X G a_q24⟩,t_q23:=⟨⟨f_q23,_,fun_mk (st:=topS 14) l_q23 c_q23 k_q23,(fun_mk (st:=topS 14) l_q23 c_q23 k_q23).binds (fun _ _ _ _ _ _ us hl => match us,hl with | [_,_],_ => rfl)⟩,PySem.W.mg_of X G a_q23⟩,t_q4:=⟨f_q4,_,fun_mk (st:=inClass (topS 15) 0) l_q4 c_q4 k_q4,(fun_mk (st:=inClass (topS 15) 0) l_q4 c_q4 k_q4).binds (fun _ _ _ _ _ _ us hl => match us,hl with | [_,_],_ => rfl)⟩,t_q0:=⟨f_q0,_,fun_mk (st:=inClass (topS 15) 1) l_q0 c_q0 k_q0,(fun_mk (st:=inClass (topS 15) 1) l_q0 c_q0 k_q0).binds (fun _ _ _ _ _ _ us hl => match us,hl with | [_],_ => rfl)⟩,t_q16:=⟨f_q16,_,fun_mk (st:=inClass (topS 15) 5) l_q16 c_q16 k_q16,(fun_mk (st:=inClass (topS 15) 5) l_q16 c_q16 k_q16).binds (fun _ _ _ _ _ _ us hl => match us,hl with | [_,_],_ => rfl)⟩,t_changed:=⟨⟨f_changed,_,fun_mk (st:=topS 17) l_changed c_changed k_changed,(fun_mk (st:=topS 17) l_changed c_changed k_changed).binds (fun _ _ _ _ _ _ us hl => match us,hl with | [_,_,_],_ => rfl)⟩,PySem.W.mg_of X G a_changed⟩,t_q7:=⟨⟨f_q7,_,fun_mk (st:=topS 18) l_q7 c_q7 k_q7,(fun_mk (st:=topS 18) l_q7 c_q7 k_q7).binds (fun _ _ _ _ _ _ us hl => match us,hl with | [_,_],_ => rfl)⟩,PySem.W.mg_of X G a_q7⟩,t_q30:=⟨⟨f_q30,_,fun_mk (st:=topS 19) l_q30 c_q30 k_q30,(fun_mk (st:=topS 19) l_q30 c_q30 k_q30).binds (fun _ _ _ _ _ _ us hl => match us,hl with | [_,_],_ => rfl)⟩,PySem.W.mg_of X G a_q30⟩,t_q17:=⟨⟨f_q17,_,fun_mk (st:=topS 21) l_q17 c_q17 k_q17,(fun_mk (st:=topS 21) l_q17 c_q17 k_q17).binds (fun _ _ _ _ _ _ us hl => match us,hl with | [_],_ => rfl)⟩,PySem.W.mg_of X G a_q17⟩,t_q20:=⟨⟨f_q20,_,fun_mk (st:=topS 22) l_q20 c_q20 k_q20,(fun_mk (st:=topS 22) l_q20 c_q20 k_q20).binds (fun _ _ _ _ _ _ us hl => match us,hl with | [_,_],_ => rfl)⟩,PySem.W.mg_of X G a_q20⟩,t_q15:=⟨⟨f_q15,_,fun_mk (st:=topS 23) l_q15 c_q15 k_q15,(fun_mk (st:=topS 23) l_q15 c_q15 k_q15).binds (fun _ _ _ _ _ _ us hl => match us,hl with | [_],_ => rfl)⟩,PySem.W.mg_of X G a_q15⟩,t_q11:=⟨⟨f_q11,_,fun_mk (st:=topS 24) l_q11 c_q11 k_q11,(fun_mk (st:=topS 24) l_q11 c_q11 k_q11).binds (fun _ _ _ _ _ _ us hl => match us,hl with | [_,_],_ => rfl)⟩,PySem.W.mg_of X G a_q11⟩,t_q22:=⟨⟨f_q22,_,fun_mk (st:=topS 25) l_q22 c_q22 k_q22,(fun_mk (st:=topS 25) l_q22 c_q22 k_q22).binds (fun _ _ _ _ _ _ us hl => match us,hl with | [_,_],_ => rfl)⟩,PySem.W.mg_of X G a_q22⟩,t_q8:=⟨⟨f_q8,_,fun_mk (st:=topS 26) l_q8 c_q8 k_q8,(fun_mk (st:=topS 26) l_q8 c_q8 k_q8).binds (fun _ _ _ _ _ _ us hl => match us,hl with | [_,_,_],_ => rfl)⟩,PySem.W.mg_of X G a_q8⟩,t_q10:=⟨⟨f_q10,_,fun_mk (st:=topS 27) l_q10 c_q10 k_q10,(fun_mk (st:=topS 27) l_q10 c_q10 k_q10).binds (fun _ _ _ _ _ _ us hl => match us,hl with | [_],_ => rfl)⟩,PySem.W.mg_of X G a_q10⟩,t_q13:=⟨⟨f_q13,_,fun_mk (st:=topS 28) l_q13 c_q13 k_q13,(fun_mk (st:=topS 28) l_q13 c_q13 k_q13).binds (fun _ _ _ _ _ _ us hl => match us,hl with | [_,_,_],_ => rfl)⟩,PySem.W.mg_of X G a_q13⟩,t_q25:=⟨⟨f_q25,_,fun_mk (st:=topS 29) l_q25 c_q25 k_q25,(fun_mk (st:=topS 29) l_q25 c_q25 k_q25).binds (fun _ _ _ _ _ _ us hl => match us,hl with | [_,_,_,_,_],_ => rfl)⟩,PySem.W.mg_of X G a_q25⟩,t_q18:=⟨⟨f_q18,_,fun_mk (st:=topS 30) l_q18 c_q18 k_q18,(fun_mk (st:=topS 30) l_q18 c_q18 k_q18).binds (fun _ _ _ _ _ _ us hl => match us,hl with | [_,_,_,_,_],_ => rfl)⟩,PySem.W.mg_of X G a_q18⟩,t_q3:=⟨⟨f_q3,_,fun_mk (st:=topS 31) l_q3 c_q3 k_q3,(fun_mk (st:=topS 31) l_q3 c_q3 k_q3).binds (fun _ _ _ _ _ _ us hl => match us,hl with | [_,_],_ => rfl)⟩,PySem.W.mg_of X G a_q3⟩,t_q19:=⟨⟨f_q19,_,fun_mk (st:=topS 32) l_q19 c_q19 k_q19,(fun_mk (st:=topS 32) l_q19 c_q19 k_q19).binds (fun _ _ _ _ _ _ us hl => match us,hl with | [_],_ => rfl)⟩,PySem.W.mg_of X G a_q19⟩,t_q9:=⟨⟨f_q9,_,fun_mk (st:=topS 33) l_q9 c_q9 k_q9,(fun_mk (st:=topS 33) l_q9 c_q9 k_q9).binds (fun _ _ _ _ _ _ us hl => match us,hl with | [_],_ => rfl)⟩,PySem.W.mg_of X G a_q9⟩,t_q14:=⟨⟨f_q14,_,fun_mk (st:=topS 34) l_q14 c_q14 k_q14,(fun_mk (st:=topS 34) l_q14 c_q14 k_q14).binds (fun _ _ _ _ _ _ us hl => match us,hl with | [_],_ => rfl)⟩,PySem.W.mg_of X G a_q14⟩,t_q12:=⟨⟨f_q12,_,fun_mk (st:=topS 35) l_q12 c_q12 k_q12,(fun_mk (st:=topS 35) l_q12 c_q12 k_q12).binds (fun _ _ _ _ _ _ us hl => match us,hl with | [_,_],_ => rfl)⟩,PySem.W.mg_of X G a_q12⟩,t_q1:=⟨⟨f_q1,_,fun_mk (st:=topS 36) l_q1 c_q1 k_q1,(fun_mk (st:=topS 36) l_q1 c_q1 k_q1).binds (fun _ _ _ _ _ _ us hl => match us,hl with | [_,_],_ => rfl)⟩,PySem.W.mg_of X G a_q1⟩,t_q5:=⟨⟨f_q5,_,fun_mk (st:=topS 37) l_q5 c_q5 k_q5,(fun_mk (st:=topS 37) l_q5 c_q5 k_q5).binds (fun _ _ _ _ _ _ us hl => match us,hl with | [_,_],_ => rfl)⟩,PySem.W.mg_of X G a_q5⟩,t_q2:=⟨⟨f_q2,_,fun_mk (st:=topS 38) l_q2 c_q2 k_q2,(fun_mk (st:=topS 38) l_q2 c_q2 k_q2).binds (fun _ _ _ _ _ _ us hl => match us,hl with | [_,_,_,_],_ => rfl)⟩,PySem.W.mg_of X G a_q2⟩,t_q21:=⟨⟨f_q21,_,fun_mk (st:=topS 39) l_q21 c_q21 k_q21,(fun_mk (st:=topS 39) l_q21 c_q21 k_q21).binds (fun _ _ _ _ _ _ us hl => match us,hl with | [_,_,_],_ => rfl)⟩,PySem.W.mg_of X G a_q21⟩,t_law:=⟨⟨f_law,_,fun_mk (st:=topS 40) l_law c_law k_law,(fun_mk (st:=topS 40) l_law c_law k_law).binds (fun _ _ _ _ _ _ us hl => match us,hl with | [_],_ => rfl)⟩,PySem.W.mg_of X G a_law⟩,a_Program:=C_Program,g_Program:=PySem.W.mg_of X G a_Program,cl_Program:=⟨pg_Program,hd_Program,po_Program,sa_Program⟩,mk_Program:=⟨mk_Program,at_Program_init,i_Program_init,kc_Program⟩,m_q0:=⟨at_Program_definitions,i_Program_definitions,k_q0⟩,m_q16:=⟨at_Program_eq,i_Program_eq,k_q16⟩,oc_Program:=⟨at_Program_eq,i_Program_eq,one_Program,oob_Program,by simp [PySem.W.notFirst]⟩,na_definitions_kept:=na_definitions_kept,f_einit:=f_einit,d_einit:=_,t_einit:=fun_mk (st:=inClass (topS 1) 0) l_einit c_einit k_einit,b_einit:=(fun_mk (st:=inClass (topS 1) 0) l_einit c_einit k_einit).binds (fun _ _ _ _ _ _ us hl => match us,hl with | [_,_],_ => rfl),i_init:=ti_einit,p_einit:=(⟨5,8,5,12⟩,⟨5,8,5,17⟩,⟨5,20,5,24⟩,⟨5,8,5,24⟩),sc_einit:=sc_einit,bo_einit:=bo_einit,E_NoProgram:=E_NoProgram,x_NoProgram:=⟨PySem.W.mg_of X G a_NoProgram,⟨⟨_,_,_,_,_,_,_,_,_,_,_,_,_,_,_,xl_NoProgram,rv_NoProgram⟩,sa_NoProgram,be_NoProgram,ty_NoProgram,kp_NoProgram⟩,at_xNoProgram,wn_NoProgram⟩,E_NoPlace:=E_NoPlace,x_NoPlace:=⟨PySem.W.mg_of X G a_NoPlace,⟨⟨_,_,_,_,_,_,_,_,_,_,_,_,_,_,_,xl_NoPlace,rv_NoPlace⟩,sa_NoPlace,be_NoPlace,ty_NoPlace,kp_NoPlace⟩,at_xNoPlace,wn_NoPlace⟩,E_AskError:=E_AskError,x_AskError:=⟨PySem.W.mg_of X G a_AskError,⟨⟨_,_,_,_,_,_,_,_,_,_,_,_,_,_,_,xl_AskError,rv_AskError⟩,sa_AskError,be_AskError,ty_AskError,kp_AskError⟩,at_xAskError,wn_AskError⟩,k_LETTERS:=k_LETTERS,c_LETTERS:=PySem.W.mg_of X G c_LETTERS,k_MOST_LETTERS:=k_MOST_LETTERS,c_MOST_LETTERS:=PySem.W.mg_of X G c_MOST_LETTERS,k_MAIN:=k_MAIN,c_MAIN:=PySem.W.mg_of X G c_MAIN,n_all:=PySem.W.mg_none_of X G n_all,n_bool:=PySem.W.mg_none_of X G n_bool,n_enumerate:=PySem.W.mg_none_of X G n_enumerate,n_int:=PySem.W.mg_none_of X G n_int,n_isinstance:=PySem.W.mg_none_of X G n_isinstance,n_len:=PySem.W.mg_none_of X G n_len,n_list:=PySem.W.mg_none_of X G n_list,n_max:=PySem.W.mg_none_of X G n_max,n_min:=PySem.W.mg_none_of X G n_min,n_range:=PySem.W.mg_none_of X G n_range,n_set:=PySem.W.mg_none_of X G n_set,n_str:=PySem.W.mg_none_of X G n_str,n_tuple:=PySem.W.mg_none_of X G n_tuple,kf_edited_0_edit_program:=Fun.kbindsW (fun_mk (st:=topS 19) l_q30 c_q30 k_q30) (fun kV dc pm an cdv ct us ws hl => match us,ws,hl with | [],[_,_],_ => rfl) kbrel_edited_0_edit_program,cT:=cT,pT:=pT,hcT:=⟨_,_,_,_,_,_,_,_,_,_,_,_,_,_,l_q7⟩,hcP:=hcP }
theorem law_facts (hmain:LawMainT "rows_edited" "rows_edited.<locals>.<lambda>" 63 m_law) {K:PySem.W.Frag} {h:Heap} {mg:Str→Option Value} {l:PySem.W.OpenLaw} {w:World} {fa:Addr} (X:K.In h) (G:h.Ns mainGlobals mg) (hfa:mg "law" = some (.ref fa)) {f_q29:Addr} {oc_q29 kV_q29 dc_q29 pm_q29 cd_q29 ct_q29:Value} {od_q29 an_q29:Option Addr} {sl_q29:Array (Option Value)} {f_q26:Addr} {oc_q26 kV_q26 dc_q26 pm_q26 cd_q26 ct_q26:Value} {od_q26 an_q26:Option Addr} {sl_q26:Array (Option Value)} {f_q27:Addr} {oc_q27 kV_q27 dc_q27 pm_q27 cd_q27 ct_q27:Value} {od_q27 an_q27:Option Addr} {sl_q27:Array (Option Value)} {f_q6:Addr} {oc_q6 kV_q6 dc_q6 pm_q6 cd_q6 ct_q6:Value} {od_q6 an_q6:Option Addr} {sl_q6:Array (Option Value)} {f_q28:Addr} {oc_q28 kV_q28 dc_q28 pm_q28 cd_q28 ct_q28:Value} {od_q28 an_q28:Option Addr} {sl_q28:Array (Option Value)} {f_q24:Addr} {oc_q24 kV_q24 dc_q24 pm_q24 cd_q24 ct_q24:Value} {od_q24 an_q24:Option Addr} {sl_q24:Array (Option Value)} {f_q23:Addr} {oc_q23 kV_q23 dc_q23 pm_q23 cd_q23 ct_q23:Value} {od_q23 an_q23:Option Addr} {sl_q23:Array (Option Value)} {f_q4:Addr} {oc_q4 kV_q4 dc_q4 pm_q4 cd_q4 ct_q4:Value} {od_q4 an_q4:Option Addr} {sl_q4:Array (Option Value)} {f_q0:Addr} {oc_q0 kV_q0 dc_q0 pm_q0 cd_q0 ct_q0:Value} {od_q0 an_q0:Option Addr} {sl_q0:Array (Option Value)} {f_q16:Addr} {oc_q16 kV_q16 dc_q16 pm_q16 cd_q16 ct_q16:Value} {od_q16 an_q16:Option Addr} {sl_q16:Array (Option Value)} {f_changed:Addr} {oc_changed kV_changed dc_changed pm_changed cd_changed ct_changed:Value} {od_changed an_changed:Option Addr} {sl_changed:Array (Option Value)} {f_q7:Addr} {oc_q7 kV_q7 dc_q7 pm_q7 ct_q7:Value} {od_q7 an_q7:Option Addr} {sl_q7:Array (Option Value)} {f_q30:Addr} {oc_q30 kV_q30 dc_q30 pm_q30 cd_q30 ct_q30:Value} {od_q30 an_q30:Option Addr} {sl_q30:Array (Option Value)} {f_q17:Addr} {oc_q17 kV_q17 dc_q17 pm_q17 cd_q17 ct_q17:Value} {od_q17 an_q17:Option Addr} {sl_q17:Array (Option Value)} {f_q20:Addr} {oc_q20 kV_q20 dc_q20 pm_q20 cd_q20 ct_q20:Value} {od_q20 an_q20:Option Addr} {sl_q20:Array (Option Value)} {f_q15:Addr} {oc_q15 kV_q15 dc_q15 pm_q15 cd_q15 ct_q15:Value} {od_q15 an_q15:Option Addr} {sl_q15:Array (Option Value)} {f_q11:Addr} {oc_q11 kV_q11 dc_q11 pm_q11 cd_q11 ct_q11:Value} {od_q11 an_q11:Option Addr} {sl_q11:Array (Option Value)} {f_q22:Addr} {oc_q22 kV_q22 dc_q22 pm_q22 cd_q22 ct_q22:Value} {od_q22 an_q22:Option Addr} {sl_q22:Array (Option Value)} {f_q8:Addr} {oc_q8 kV_q8 dc_q8 pm_q8 cd_q8 ct_q8:Value} {od_q8 an_q8:Option Addr} {sl_q8:Array (Option Value)} {f_q10:Addr} {oc_q10 kV_q10 dc_q10 pm_q10 cd_q10 ct_q10:Value} {od_q10 an_q10:Option Addr} {sl_q10:Array (Option Value)} {f_q13:Addr} {oc_q13 kV_q13 dc_q13 pm_q13 cd_q13 ct_q13:Value} {od_q13 an_q13:Option Addr} {sl_q13:Array (Option Value)} {f_q25:Addr} {oc_q25 kV_q25 dc_q25 pm_q25 cd_q25 ct_q25:Value} {od_q25 an_q25:Option Addr} {sl_q25:Array (Option Value)} {f_q18:Addr} {oc_q18 kV_q18 dc_q18 pm_q18 cd_q18 ct_q18:Value} {od_q18 an_q18:Option Addr} {sl_q18:Array (Option Value)} {f_q3:Addr} {oc_q3 kV_q3 dc_q3 pm_q3 cd_q3 ct_q3:Value} {od_q3 an_q3:Option Addr} {sl_q3:Array (Option Value)} {f_q19:Addr} {oc_q19 kV_q19 dc_q19 pm_q19 cd_q19 ct_q19:Value} {od_q19 an_q19:Option Addr} {sl_q19:Array (Option Value)} {f_q9:Addr} {oc_q9 kV_q9 dc_q9 pm_q9 cd_q9 ct_q9:Value} {od_q9 an_q9:Option Addr} {sl_q9:Array (Option Value)} {f_q14:Addr} {oc_q14 kV_q14 dc_q14 pm_q14 cd_q14 ct_q14:Value} {od_q14 an_q14:Option Addr} {sl_q14:Array (Option Value)} {f_q12:Addr} {oc_q12 kV_q12 dc_q12 pm_q12 cd_q12 ct_q12:Value} {od_q12 an_q12:Option Addr} {sl_q12:Array (Option Value)} {f_q1:Addr} {oc_q1 kV_q1 dc_q1 pm_q1 cd_q1 ct_q1:Value} {od_q1 an_q1:Option Addr} {sl_q1:Array (Option Value)} {f_q5:Addr} {oc_q5 kV_q5 dc_q5 pm_q5 cd_q5 ct_q5:Value} {od_q5 an_q5:Option Addr} {sl_q5:Array (Option Value)} {f_q2:Addr} {oc_q2 kV_q2 dc_q2 pm_q2 cd_q2 ct_q2:Value} {od_q2 an_q2:Option Addr} {sl_q2:Array (Option Value)} {f_q21:Addr} {oc_q21 kV_q21 dc_q21 pm_q21 cd_q21 ct_q21:Value} {od_q21 an_q21:Option Addr} {sl_q21:Array (Option Value)} {f_law:Addr} {oc_law kV_law dc_law pm_law cd_law ct_law:Value} {od_law an_law:Option Addr} {sl_law:Array (Option Value)} {C_Program:Addr} {f_einit:Addr} {oc_einit kV_einit dc_einit pm_einit cd_einit ct_einit:Value} {od_einit an_einit:Option Addr} {sl_einit:Array (Option Value)} {E_NoProgram N_NoProgram:Addr} {nm_NoProgram qn_NoProgram:Str} {bs_NoProgram bm_NoProgram sub_NoProgram:List Value} {sn_NoProgram:List Str} {ab_NoProgram:Bool} {col_NoProgram:Option Bool} {dd_NoProgram:Option Addr} {m0_NoProgram m1_NoProgram m2_NoProgram m3_NoProgram m5_NoProgram:Option Value} {E_NoPlace N_NoPlace:Addr} {nm_NoPlace qn_NoPlace:Str} {bs_NoPlace bm_NoPlace sub_NoPlace:List Value} {sn_NoPlace:List Str} {ab_NoPlace:Bool} {col_NoPlace:Option Bool} {dd_NoPlace:Option Addr} {m0_NoPlace m1_NoPlace m2_NoPlace m3_NoPlace m5_NoPlace:Option Value} {E_AskError N_AskError:Addr} {nm_AskError qn_AskError:Str} {bs_AskError bm_AskError sub_AskError:List Value} {sn_AskError:List Str} {ab_AskError:Bool} {col_AskError:Option Bool} {dd_AskError:Option Addr} {m0_AskError m1_AskError m2_AskError m3_AskError m5_AskError:Option Value} {k_LETTERS:Tok} {k_MOST_LETTERS:Tok} {k_MAIN:Tok} {cT pT:Addr}
 (l_q29:K.lookup f_q29 = some ⟨oc_q29,od_q29,.func (PySem.W.fnOf "is_name" "is_name" (defArgs (topS 8)) (defBody (topS 8)) (defScope (topS 8)) .none kV_q29 dc_q29 pm_q29 an_q29 cd_q29 ct_q29),sl_q29⟩) (c_q29:PySem.W.codeIn K cd_q29 "is_name" = true) (k_q29:PySem.W.keepIn K (.ref f_q29) = true)
 (a_q29:PySem.W.nsIn K mainGlobals "is_name" = some (some (.ref f_q29)))
 (l_q26:K.lookup f_q26 = some ⟨oc_q26,od_q26,.func (PySem.W.fnOf "each_row" "each_row" (defArgs (topS 9)) (defBody (topS 9)) (defScope (topS 9)) .none kV_q26 dc_q26 pm_q26 an_q26 cd_q26 ct_q26),sl_q26⟩) (c_q26:PySem.W.codeIn K cd_q26 "each_row" = true) (k_q26:PySem.W.keepIn K (.ref f_q26) = true)
 (a_q26:PySem.W.nsIn K mainGlobals "each_row" = some (some (.ref f_q26)))
 (l_q27:K.lookup f_q27 = some ⟨oc_q27,od_q27,.func (PySem.W.fnOf "size_of" "size_of" (defArgs (topS 10)) (defBody (topS 10)) (defScope (topS 10)) .none kV_q27 dc_q27 pm_q27 an_q27 cd_q27 ct_q27),sl_q27⟩) (c_q27:PySem.W.codeIn K cd_q27 "size_of" = true) (k_q27:PySem.W.keepIn K (.ref f_q27) = true)
 (a_q27:PySem.W.nsIn K mainGlobals "size_of" = some (some (.ref f_q27)))
 (l_q6:K.lookup f_q6 = some ⟨oc_q6,od_q6,.func (PySem.W.fnOf "names_asked" "names_asked" (defArgs (topS 11)) (defBody (topS 11)) (defScope (topS 11)) .none kV_q6 dc_q6 pm_q6 an_q6 cd_q6 ct_q6),sl_q6⟩) (c_q6:PySem.W.codeIn K cd_q6 "names_asked" = true) (k_q6:PySem.W.keepIn K (.ref f_q6) = true)
 (a_q6:PySem.W.nsIn K mainGlobals "names_asked" = some (some (.ref f_q6)))
 (l_q28:K.lookup f_q28 = some ⟨oc_q28,od_q28,.func (PySem.W.fnOf "call_of" "call_of" (defArgs (topS 12)) (defBody (topS 12)) (defScope (topS 12)) .none kV_q28 dc_q28 pm_q28 an_q28 cd_q28 ct_q28),sl_q28⟩) (c_q28:PySem.W.codeIn K cd_q28 "call_of" = true) (k_q28:PySem.W.keepIn K (.ref f_q28) = true)
 (a_q28:PySem.W.nsIn K mainGlobals "call_of" = some (some (.ref f_q28)))
 (l_q24:K.lookup f_q24 = some ⟨oc_q24,od_q24,.func (PySem.W.fnOf "names_in" "names_in" (defArgs (topS 13)) (defBody (topS 13)) (defScope (topS 13)) .none kV_q24 dc_q24 pm_q24 an_q24 cd_q24 ct_q24),sl_q24⟩) (c_q24:PySem.W.codeIn K cd_q24 "names_in" = true) (k_q24:PySem.W.keepIn K (.ref f_q24) = true)
 (a_q24:PySem.W.nsIn K mainGlobals "names_in" = some (some (.ref f_q24)))
 (l_q23:K.lookup f_q23 = some ⟨oc_q23,od_q23,.func (PySem.W.fnOf "is_sound" "is_sound" (defArgs (topS 14)) (defBody (topS 14)) (defScope (topS 14)) .none kV_q23 dc_q23 pm_q23 an_q23 cd_q23 ct_q23),sl_q23⟩) (c_q23:PySem.W.codeIn K cd_q23 "is_sound" = true) (k_q23:PySem.W.keepIn K (.ref f_q23) = true)
 (a_q23:PySem.W.nsIn K mainGlobals "is_sound" = some (some (.ref f_q23)))
 (l_q4:K.lookup f_q4 = some ⟨oc_q4,od_q4,.func (PySem.W.fnOf "__init__" "Program.__init__" (defArgs (inClass (topS 15) 0)) (defBody (inClass (topS 15) 0)) (defScope (inClass (topS 15) 0)) .none kV_q4 dc_q4 pm_q4 an_q4 cd_q4 ct_q4),sl_q4⟩) (c_q4:PySem.W.codeIn K cd_q4 "Program.__init__" = true) (k_q4:PySem.W.keepIn K (.ref f_q4) = true)
 (l_q0:K.lookup f_q0 = some ⟨oc_q0,od_q0,.func (PySem.W.fnOf "definitions" "Program.definitions" (defArgs (inClass (topS 15) 1)) (defBody (inClass (topS 15) 1)) (defScope (inClass (topS 15) 1)) .none kV_q0 dc_q0 pm_q0 an_q0 cd_q0 ct_q0),sl_q0⟩) (c_q0:PySem.W.codeIn K cd_q0 "Program.definitions" = true) (k_q0:PySem.W.keepIn K (.ref f_q0) = true)
 (l_q16:K.lookup f_q16 = some ⟨oc_q16,od_q16,.func (PySem.W.fnOf "__eq__" "Program.__eq__" (defArgs (inClass (topS 15) 5)) (defBody (inClass (topS 15) 5)) (defScope (inClass (topS 15) 5)) .none kV_q16 dc_q16 pm_q16 an_q16 cd_q16 ct_q16),sl_q16⟩) (c_q16:PySem.W.codeIn K cd_q16 "Program.__eq__" = true) (k_q16:PySem.W.keepIn K (.ref f_q16) = true)
 (l_changed:K.lookup f_changed = some ⟨oc_changed,od_changed,.func (PySem.W.fnOf "changed" "changed" (defArgs (topS 17)) (defBody (topS 17)) (defScope (topS 17)) .none kV_changed dc_changed pm_changed an_changed cd_changed ct_changed),sl_changed⟩) (c_changed:PySem.W.codeIn K cd_changed "changed" = true) (k_changed:PySem.W.keepIn K (.ref f_changed) = true)
 (a_changed:PySem.W.nsIn K mainGlobals "changed" = some (some (.ref f_changed)))
 (l_q7:K.lookup f_q7 = some ⟨oc_q7,od_q7,.func (PySem.W.fnOf "rows_edited" "rows_edited" (defArgs (topS 18)) (defBody (topS 18)) (defScope (topS 18)) .none kV_q7 dc_q7 pm_q7 an_q7 (.ref cT) ct_q7),sl_q7⟩) (c_q7:PySem.W.codeIn K (.ref cT) "rows_edited" = true) (k_q7:PySem.W.keepIn K (.ref f_q7) = true)
 (a_q7:PySem.W.nsIn K mainGlobals "rows_edited" = some (some (.ref f_q7)))
 (l_q30:K.lookup f_q30 = some ⟨oc_q30,od_q30,.func (PySem.W.fnOf "edited" "edited" (defArgs (topS 19)) (defBody (topS 19)) (defScope (topS 19)) .none kV_q30 dc_q30 pm_q30 an_q30 cd_q30 ct_q30),sl_q30⟩) (c_q30:PySem.W.codeIn K cd_q30 "edited" = true) (k_q30:PySem.W.keepIn K (.ref f_q30) = true)
 (a_q30:PySem.W.nsIn K mainGlobals "edited" = some (some (.ref f_q30)))
 (l_q17:K.lookup f_q17 = some ⟨oc_q17,od_q17,.func (PySem.W.fnOf "_law_tray" "_law_tray" (defArgs (topS 21)) (defBody (topS 21)) (defScope (topS 21)) .none kV_q17 dc_q17 pm_q17 an_q17 cd_q17 ct_q17),sl_q17⟩) (c_q17:PySem.W.codeIn K cd_q17 "_law_tray" = true) (k_q17:PySem.W.keepIn K (.ref f_q17) = true)
 (a_q17:PySem.W.nsIn K mainGlobals "_law_tray" = some (some (.ref f_q17)))
 (l_q20:K.lookup f_q20 = some ⟨oc_q20,od_q20,.func (PySem.W.fnOf "_law_draw" "_law_draw" (defArgs (topS 22)) (defBody (topS 22)) (defScope (topS 22)) .none kV_q20 dc_q20 pm_q20 an_q20 cd_q20 ct_q20),sl_q20⟩) (c_q20:PySem.W.codeIn K cd_q20 "_law_draw" = true) (k_q20:PySem.W.keepIn K (.ref f_q20) = true)
 (a_q20:PySem.W.nsIn K mainGlobals "_law_draw" = some (some (.ref f_q20)))
 (l_q15:K.lookup f_q15 = some ⟨oc_q15,od_q15,.func (PySem.W.fnOf "_law_great" "_law_great" (defArgs (topS 23)) (defBody (topS 23)) (defScope (topS 23)) .none kV_q15 dc_q15 pm_q15 an_q15 cd_q15 ct_q15),sl_q15⟩) (c_q15:PySem.W.codeIn K cd_q15 "_law_great" = true) (k_q15:PySem.W.keepIn K (.ref f_q15) = true)
 (a_q15:PySem.W.nsIn K mainGlobals "_law_great" = some (some (.ref f_q15)))
 (l_q11:K.lookup f_q11 = some ⟨oc_q11,od_q11,.func (PySem.W.fnOf "_law_alike" "_law_alike" (defArgs (topS 24)) (defBody (topS 24)) (defScope (topS 24)) .none kV_q11 dc_q11 pm_q11 an_q11 cd_q11 ct_q11),sl_q11⟩) (c_q11:PySem.W.codeIn K cd_q11 "_law_alike" = true) (k_q11:PySem.W.keepIn K (.ref f_q11) = true)
 (a_q11:PySem.W.nsIn K mainGlobals "_law_alike" = some (some (.ref f_q11)))
 (l_q22:K.lookup f_q22 = some ⟨oc_q22,od_q22,.func (PySem.W.fnOf "_law_name" "_law_name" (defArgs (topS 25)) (defBody (topS 25)) (defScope (topS 25)) .none kV_q22 dc_q22 pm_q22 an_q22 cd_q22 ct_q22),sl_q22⟩) (c_q22:PySem.W.codeIn K cd_q22 "_law_name" = true) (k_q22:PySem.W.keepIn K (.ref f_q22) = true)
 (a_q22:PySem.W.nsIn K mainGlobals "_law_name" = some (some (.ref f_q22)))
 (l_q8:K.lookup f_q8 = some ⟨oc_q8,od_q8,.func (PySem.W.fnOf "_law_names" "_law_names" (defArgs (topS 26)) (defBody (topS 26)) (defScope (topS 26)) .none kV_q8 dc_q8 pm_q8 an_q8 cd_q8 ct_q8),sl_q8⟩) (c_q8:PySem.W.codeIn K cd_q8 "_law_names" = true) (k_q8:PySem.W.keepIn K (.ref f_q8) = true)
 (a_q8:PySem.W.nsIn K mainGlobals "_law_names" = some (some (.ref f_q8)))
 (l_q10:K.lookup f_q10 = some ⟨oc_q10,od_q10,.func (PySem.W.fnOf "_law_whole" "_law_whole" (defArgs (topS 27)) (defBody (topS 27)) (defScope (topS 27)) .none kV_q10 dc_q10 pm_q10 an_q10 cd_q10 ct_q10),sl_q10⟩) (c_q10:PySem.W.codeIn K cd_q10 "_law_whole" = true) (k_q10:PySem.W.keepIn K (.ref f_q10) = true)
 (a_q10:PySem.W.nsIn K mainGlobals "_law_whole" = some (some (.ref f_q10)))
 (l_q13:K.lookup f_q13 = some ⟨oc_q13,od_q13,.func (PySem.W.fnOf "_law_value" "_law_value" (defArgs (topS 28)) (defBody (topS 28)) (defScope (topS 28)) .none kV_q13 dc_q13 pm_q13 an_q13 cd_q13 ct_q13),sl_q13⟩) (c_q13:PySem.W.codeIn K cd_q13 "_law_value" = true) (k_q13:PySem.W.keepIn K (.ref f_q13) = true)
 (a_q13:PySem.W.nsIn K mainGlobals "_law_value" = some (some (.ref f_q13)))
 (l_q25:K.lookup f_q25 = some ⟨oc_q25,od_q25,.func (PySem.W.fnOf "_law_row" "_law_row" (defArgs (topS 29)) (defBody (topS 29)) (defScope (topS 29)) .none kV_q25 dc_q25 pm_q25 an_q25 cd_q25 ct_q25),sl_q25⟩) (c_q25:PySem.W.codeIn K cd_q25 "_law_row" = true) (k_q25:PySem.W.keepIn K (.ref f_q25) = true)
 (a_q25:PySem.W.nsIn K mainGlobals "_law_row" = some (some (.ref f_q25)))
 (l_q18:K.lookup f_q18 = some ⟨oc_q18,od_q18,.func (PySem.W.fnOf "_law_rows" "_law_rows" (defArgs (topS 30)) (defBody (topS 30)) (defScope (topS 30)) .none kV_q18 dc_q18 pm_q18 an_q18 cd_q18 ct_q18),sl_q18⟩) (c_q18:PySem.W.codeIn K cd_q18 "_law_rows" = true) (k_q18:PySem.W.keepIn K (.ref f_q18) = true)
 (a_q18:PySem.W.nsIn K mainGlobals "_law_rows" = some (some (.ref f_q18)))
 (l_q3:K.lookup f_q3 = some ⟨oc_q3,od_q3,.func (PySem.W.fnOf "_law_program" "_law_program" (defArgs (topS 31)) (defBody (topS 31)) (defScope (topS 31)) .none kV_q3 dc_q3 pm_q3 an_q3 cd_q3 ct_q3),sl_q3⟩) (c_q3:PySem.W.codeIn K cd_q3 "_law_program" = true) (k_q3:PySem.W.keepIn K (.ref f_q3) = true)
 (a_q3:PySem.W.nsIn K mainGlobals "_law_program" = some (some (.ref f_q3)))
 (l_q19:K.lookup f_q19 = some ⟨oc_q19,od_q19,.func (PySem.W.fnOf "_law_each" "_law_each" (defArgs (topS 32)) (defBody (topS 32)) (defScope (topS 32)) .none kV_q19 dc_q19 pm_q19 an_q19 cd_q19 ct_q19),sl_q19⟩) (c_q19:PySem.W.codeIn K cd_q19 "_law_each" = true) (k_q19:PySem.W.keepIn K (.ref f_q19) = true)
 (a_q19:PySem.W.nsIn K mainGlobals "_law_each" = some (some (.ref f_q19)))
 (l_q9:K.lookup f_q9 = some ⟨oc_q9,od_q9,.func (PySem.W.fnOf "_law_loose" "_law_loose" (defArgs (topS 33)) (defBody (topS 33)) (defScope (topS 33)) .none kV_q9 dc_q9 pm_q9 an_q9 cd_q9 ct_q9),sl_q9⟩) (c_q9:PySem.W.codeIn K cd_q9 "_law_loose" = true) (k_q9:PySem.W.keepIn K (.ref f_q9) = true)
 (a_q9:PySem.W.nsIn K mainGlobals "_law_loose" = some (some (.ref f_q9)))
 (l_q14:K.lookup f_q14 = some ⟨oc_q14,od_q14,.func (PySem.W.fnOf "_law_bound" "_law_bound" (defArgs (topS 34)) (defBody (topS 34)) (defScope (topS 34)) .none kV_q14 dc_q14 pm_q14 an_q14 cd_q14 ct_q14),sl_q14⟩) (c_q14:PySem.W.codeIn K cd_q14 "_law_bound" = true) (k_q14:PySem.W.keepIn K (.ref f_q14) = true)
 (a_q14:PySem.W.nsIn K mainGlobals "_law_bound" = some (some (.ref f_q14)))
 (l_q12:K.lookup f_q12 = some ⟨oc_q12,od_q12,.func (PySem.W.fnOf "_law_spots" "_law_spots" (defArgs (topS 35)) (defBody (topS 35)) (defScope (topS 35)) .none kV_q12 dc_q12 pm_q12 an_q12 cd_q12 ct_q12),sl_q12⟩) (c_q12:PySem.W.codeIn K cd_q12 "_law_spots" = true) (k_q12:PySem.W.keepIn K (.ref f_q12) = true)
 (a_q12:PySem.W.nsIn K mainGlobals "_law_spots" = some (some (.ref f_q12)))
 (l_q1:K.lookup f_q1 = some ⟨oc_q1,od_q1,.func (PySem.W.fnOf "_law_rows_edited" "_law_rows_edited" (defArgs (topS 36)) (defBody (topS 36)) (defScope (topS 36)) .none kV_q1 dc_q1 pm_q1 an_q1 cd_q1 ct_q1),sl_q1⟩) (c_q1:PySem.W.codeIn K cd_q1 "_law_rows_edited" = true) (k_q1:PySem.W.keepIn K (.ref f_q1) = true)
 (a_q1:PySem.W.nsIn K mainGlobals "_law_rows_edited" = some (some (.ref f_q1)))
 (l_q5:K.lookup f_q5 = some ⟨oc_q5,od_q5,.func (PySem.W.fnOf "_law_edited" "_law_edited" (defArgs (topS 37)) (defBody (topS 37)) (defScope (topS 37)) .none kV_q5 dc_q5 pm_q5 an_q5 cd_q5 ct_q5),sl_q5⟩) (c_q5:PySem.W.codeIn K cd_q5 "_law_edited" = true) (k_q5:PySem.W.keepIn K (.ref f_q5) = true)
 (a_q5:PySem.W.nsIn K mainGlobals "_law_edited" = some (some (.ref f_q5)))
 (l_q2:K.lookup f_q2 = some ⟨oc_q2,od_q2,.func (PySem.W.fnOf "_law_new_row" "_law_new_row" (defArgs (topS 38)) (defBody (topS 38)) (defScope (topS 38)) .none kV_q2 dc_q2 pm_q2 an_q2 cd_q2 ct_q2),sl_q2⟩) (c_q2:PySem.W.codeIn K cd_q2 "_law_new_row" = true) (k_q2:PySem.W.keepIn K (.ref f_q2) = true)
 (a_q2:PySem.W.nsIn K mainGlobals "_law_new_row" = some (some (.ref f_q2)))
 (l_q21:K.lookup f_q21 = some ⟨oc_q21,od_q21,.func (PySem.W.fnOf "_law_edit" "_law_edit" (defArgs (topS 39)) (defBody (topS 39)) (defScope (topS 39)) .none kV_q21 dc_q21 pm_q21 an_q21 cd_q21 ct_q21),sl_q21⟩) (c_q21:PySem.W.codeIn K cd_q21 "_law_edit" = true) (k_q21:PySem.W.keepIn K (.ref f_q21) = true)
 (a_q21:PySem.W.nsIn K mainGlobals "_law_edit" = some (some (.ref f_q21)))
 (l_law:K.lookup f_law = some ⟨oc_law,od_law,.func (PySem.W.fnOf "law" "law" (defArgs (topS 40)) (defBody (topS 40)) (defScope (topS 40)) .none kV_law dc_law pm_law an_law cd_law ct_law),sl_law⟩) (c_law:PySem.W.codeIn K cd_law "law" = true) (k_law:PySem.W.keepIn K (.ref f_law) = true)
 (a_law:PySem.W.nsIn K mainGlobals "law" = some (some (.ref f_law)))
 (a_Program:PySem.W.nsIn K mainGlobals "Program" = some (some (.ref C_Program))) (pg_Program:PySem.W.plainGet K C_Program Str.empty = true) (hd_Program:PySem.W.hasDictIn K C_Program = true) (po_Program:PySem.W.plainOver K C_Program = true) (sa_Program:PySem.W.findIn K (.ref C_Program) "__setattr__" = some (some (.builtin "object.__setattr__"))) (mk_Program:PySem.W.makesIn K C_Program = true) (kc_Program:PySem.W.keepIn K (.ref C_Program) = true)
 (at_Program_init:PySem.W.findIn K (.ref C_Program) "__init__" = some (some (.ref f_q4))) (i_Program_init:PySem.W.isFn K (.ref f_q4) = true)
 (at_Program_definitions:PySem.W.findIn K (.ref C_Program) "definitions" = some (some (.ref f_q0))) (i_Program_definitions:PySem.W.isFn K (.ref f_q0) = true)
 (at_Program_eq:PySem.W.findIn K (.ref C_Program) "__eq__" = some (some (.ref f_q16))) (i_Program_eq:PySem.W.isFn K (.ref f_q16) = true)
 (one_Program:PySem.W.findIn K (.ref C_Program) "__ne__" = some (some (.builtin "object.__ne__"))) (oob_Program:PySem.W.mroIn K C_Program (.type "object") = some true)
 (na_definitions_kept:PySem.W.findIn K (.ref C_Program) "definitions_kept" = some none)
 (l_einit:K.lookup f_einit = some ⟨oc_einit,od_einit,.func (PySem.W.fnOf "__init__" "AskError.__init__" (defArgs (inClass (topS 1) 0)) (defBody (inClass (topS 1) 0)) (defScope (inClass (topS 1) 0)) .none kV_einit dc_einit pm_einit an_einit cd_einit ct_einit),sl_einit⟩) (c_einit:PySem.W.codeIn K cd_einit "AskError.__init__" = true) (k_einit:PySem.W.keepIn K (.ref f_einit) = true) (ti_einit:PySem.W.typeIn K (.ref f_einit) = some (.type "function"))
 (cg:PySem.W.specialIn K (.builtin "object.__class__") "__get__" = some (some (.builtin "getset_descriptor.__get__"))) (cta:PySem.W.takesIn K (.builtin "object.__class__") = some true)
 (a_NoProgram:PySem.W.nsIn K mainGlobals "NoProgram" = some (some (.ref E_NoProgram))) (xl_NoProgram:K.lookup E_NoProgram = some (PySem.excClassObj nm_NoProgram qn_NoProgram E_NoProgram N_NoProgram bs_NoProgram bm_NoProgram true sn_NoProgram sub_NoProgram ab_NoProgram col_NoProgram dd_NoProgram m0_NoProgram m1_NoProgram m2_NoProgram m3_NoProgram m5_NoProgram "ValueError.__new__")) (rv_NoProgram:PySem.HandSPX.refsVE bm_NoProgram = true)
 (sa_NoProgram:PySem.W.findIn K (.ref E_NoProgram) "__setattr__" = some (some (.builtin "object.__setattr__"))) (be_NoProgram:PySem.W.subIn K (.ref E_NoProgram) (.type "BaseException") = some true) (ty_NoProgram:PySem.W.typeIn K (.ref E_NoProgram) = some (.type "type")) (kp_NoProgram:PySem.W.keepIn K (.ref E_NoProgram) = true) (at_xNoProgram:PySem.W.findIn K (.ref E_NoProgram) "__init__" = some (some (.ref f_einit))) (wn_NoProgram:PySem.W.findIn K (.ref E_NoProgram) "what" = some none) (hx_NoProgram:PySem.W.hasDictIn K E_NoProgram = true)
 (a_NoPlace:PySem.W.nsIn K mainGlobals "NoPlace" = some (some (.ref E_NoPlace))) (xl_NoPlace:K.lookup E_NoPlace = some (PySem.excClassObj nm_NoPlace qn_NoPlace E_NoPlace N_NoPlace bs_NoPlace bm_NoPlace true sn_NoPlace sub_NoPlace ab_NoPlace col_NoPlace dd_NoPlace m0_NoPlace m1_NoPlace m2_NoPlace m3_NoPlace m5_NoPlace "ValueError.__new__")) (rv_NoPlace:PySem.HandSPX.refsVE bm_NoPlace = true)
 (sa_NoPlace:PySem.W.findIn K (.ref E_NoPlace) "__setattr__" = some (some (.builtin "object.__setattr__"))) (be_NoPlace:PySem.W.subIn K (.ref E_NoPlace) (.type "BaseException") = some true) (ty_NoPlace:PySem.W.typeIn K (.ref E_NoPlace) = some (.type "type")) (kp_NoPlace:PySem.W.keepIn K (.ref E_NoPlace) = true) (at_xNoPlace:PySem.W.findIn K (.ref E_NoPlace) "__init__" = some (some (.ref f_einit))) (wn_NoPlace:PySem.W.findIn K (.ref E_NoPlace) "what" = some none) (hx_NoPlace:PySem.W.hasDictIn K E_NoPlace = true)
 (a_AskError:PySem.W.nsIn K mainGlobals "AskError" = some (some (.ref E_AskError))) (xl_AskError:K.lookup E_AskError = some (PySem.excClassObj nm_AskError qn_AskError E_AskError N_AskError bs_AskError bm_AskError true sn_AskError sub_AskError ab_AskError col_AskError dd_AskError m0_AskError m1_AskError m2_AskError m3_AskError m5_AskError "ValueError.__new__")) (rv_AskError:PySem.HandSPX.refsVE bm_AskError = true)
 (sa_AskError:PySem.W.findIn K (.ref E_AskError) "__setattr__" = some (some (.builtin "object.__setattr__"))) (be_AskError:PySem.W.subIn K (.ref E_AskError) (.type "BaseException") = some true) (ty_AskError:PySem.W.typeIn K (.ref E_AskError) = some (.type "type")) (kp_AskError:PySem.W.keepIn K (.ref E_AskError) = true) (at_xAskError:PySem.W.findIn K (.ref E_AskError) "__init__" = some (some (.ref f_einit))) (wn_AskError:PySem.W.findIn K (.ref E_AskError) "what" = some none) (hx_AskError:PySem.W.hasDictIn K E_AskError = true)
 (c_LETTERS:PySem.W.nsIn K mainGlobals "LETTERS" = some (some (.str "abcdefghijklmnopqrstuvwxyz" k_LETTERS)))
 (c_MOST_LETTERS:PySem.W.nsIn K mainGlobals "MOST_LETTERS" = some (some (.int 8 k_MOST_LETTERS)))
 (c_MAIN:PySem.W.nsIn K mainGlobals "MAIN" = some (some (.str "main" k_MAIN)))
 (n_all:PySem.W.nsIn K mainGlobals "all" = some none)
 (n_bool:PySem.W.nsIn K mainGlobals "bool" = some none)
 (n_enumerate:PySem.W.nsIn K mainGlobals "enumerate" = some none)
 (n_int:PySem.W.nsIn K mainGlobals "int" = some none)
 (n_isinstance:PySem.W.nsIn K mainGlobals "isinstance" = some none)
 (n_len:PySem.W.nsIn K mainGlobals "len" = some none)
 (n_list:PySem.W.nsIn K mainGlobals "list" = some none)
 (n_max:PySem.W.nsIn K mainGlobals "max" = some none)
 (n_min:PySem.W.nsIn K mainGlobals "min" = some none)
 (n_range:PySem.W.nsIn K mainGlobals "range" = some none)
 (n_set:PySem.W.nsIn K mainGlobals "set" = some none)
 (n_str:PySem.W.nsIn K mainGlobals "str" = some none)
 (n_tuple:PySem.W.nsIn K mainGlobals "tuple" = some none)
 (hcP:PySem.W.codeHdIn K cT pT = true)
 (hps:h.get? pT = some { cls:=.none,data:=.fields #[] }) (hkn:K.lookup pT = none) :
 LamX.LawAtS l w K (L2.CX l.prog w) 23 63 "_law_script" mg fa h:=by
 have e:=hfa.symm.trans (PySem.W.mg_of X G a_law)
 cases e
 exact ⟨_,[(cT,pT)],spLawT K pT 63,List.forall_mem_cons.mpr ⟨hps,fun _ z => nomatch z⟩,List.forall_mem_cons.mpr ⟨hkn,fun _ z => nomatch z⟩,List.forall_mem_cons.mpr ⟨PySem.W.codeHd_of_K X hcP,fun _ z => nomatch z⟩,fun s v => .of_eq rfl,fun H a ns h1 _ h2 h3 => ⟨a,ns,rfl,h1,h2 (cT,pT) (List.mem_singleton.mpr rfl),h3,fun _ => rfl⟩,fun base _ _ TB => fn_lawT hmain ⟨_,_,(mkTx (w:=w) X G l_q29 c_q29 k_q29 a_q29 l_q26 c_q26 k_q26 a_q26 l_q27 c_q27 k_q27 a_q27 l_q6 c_q6 k_q6 a_q6 l_q28 c_q28 k_q28 a_q28 l_q24 c_q24 k_q24 a_q24 l_q23 c_q23 k_q23 a_q23 l_q4 c_q4 k_q4 l_q0 c_q0 k_q0 l_q16 c_q16 k_q16 l_changed c_changed k_changed a_changed l_q7 c_q7 k_q7 a_q7 l_q30 c_q30 k_q30 a_q30 l_q17 c_q17 k_q17 a_q17 l_q20 c_q20 k_q20 a_q20 l_q15 c_q15 k_q15 a_q15 l_q11 c_q11 k_q11 a_q11 l_q22 c_q22 k_q22 a_q22 l_q8 c_q8 k_q8 a_q8 l_q10 c_q10 k_q10 a_q10 l_q13 c_q13 k_q13 a_q13 l_q25 c_q25 k_q25 a_q25 l_q18 c_q18 k_q18 a_q18 l_q3 c_q3 k_q3 a_q3 l_q19 c_q19 k_q19 a_q19 l_q9 c_q9 k_q9 a_q9 l_q14 c_q14 k_q14 a_q14 l_q12 c_q12 k_q12 a_q12 l_q1 c_q1 k_q1 a_q1 l_q5 c_q5 k_q5 a_q5 l_q2 c_q2 k_q2 a_q2 l_q21 c_q21 k_q21 a_q21 l_law c_law k_law a_law a_Program pg_Program hd_Program po_Program sa_Program mk_Program kc_Program at_Program_init i_Program_init at_Program_definitions i_Program_definitions at_Program_eq i_Program_eq one_Program oob_Program na_definitions_kept l_einit c_einit k_einit ti_einit cg cta a_NoProgram xl_NoProgram rv_NoProgram sa_NoProgram be_NoProgram ty_NoProgram kp_NoProgram at_xNoProgram wn_NoProgram hx_NoProgram a_NoPlace xl_NoPlace rv_NoPlace sa_NoPlace be_NoPlace ty_NoPlace kp_NoPlace at_xNoPlace wn_NoPlace hx_NoPlace a_AskError xl_AskError rv_AskError sa_AskError be_AskError ty_AskError kp_AskError at_xAskError wn_AskError hx_AskError c_LETTERS c_MOST_LETTERS c_MAIN n_all n_bool n_enumerate n_int n_isinstance n_len n_list n_max n_min n_range n_set n_str n_tuple hcP).t_q7.g,(mkTx (w:=w) X G l_q29 c_q29 k_q29 a_q29 l_q26 c_q26 k_q26 a_q26 l_q27 c_q27 k_q27 a_q27 l_q6 c_q6 k_q6 a_q6 l_q28 c_q28 k_q28 a_q28 l_q24 c_q24 k_q24 a_q24 l_q23 c_q23 k_q23 a_q23 l_q4 c_q4 k_q4 l_q0 c_q0 k_q0 l_q16 c_q16 k_q16 l_changed c_changed k_changed a_changed l_q7 c_q7 k_q7 a_q7 l_q30 c_q30 k_q30 a_q30 l_q17 c_q17 k_q17 a_q17 l_q20 c_q20 k_q20 a_q20 l_q15 c_q15 k_q15 a_q15 l_q11 c_q11 k_q11 a_q11 l_q22 c_q22 k_q22 a_q22 l_q8 c_q8 k_q8 a_q8 l_q10 c_q10 k_q10 a_q10 l_q13 c_q13 k_q13 a_q13 l_q25 c_q25 k_q25 a_q25 l_q18 c_q18 k_q18 a_q18 l_q3 c_q3 k_q3 a_q3 l_q19 c_q19 k_q19 a_q19 l_q9 c_q9 k_q9 a_q9 l_q14 c_q14 k_q14 a_q14 l_q12 c_q12 k_q12 a_q12 l_q1 c_q1 k_q1 a_q1 l_q5 c_q5 k_q5 a_q5 l_q2 c_q2 k_q2 a_q2 l_q21 c_q21 k_q21 a_q21 l_law c_law k_law a_law a_Program pg_Program hd_Program po_Program sa_Program mk_Program kc_Program at_Program_init i_Program_init at_Program_definitions i_Program_definitions at_Program_eq i_Program_eq one_Program oob_Program na_definitions_kept l_einit c_einit k_einit ti_einit cg cta a_NoProgram xl_NoProgram rv_NoProgram sa_NoProgram be_NoProgram ty_NoProgram kp_NoProgram at_xNoProgram wn_NoProgram hx_NoProgram a_NoPlace xl_NoPlace rv_NoPlace sa_NoPlace be_NoPlace ty_NoPlace kp_NoPlace at_xNoPlace wn_NoPlace hx_NoPlace a_AskError xl_AskError rv_AskError sa_AskError be_AskError ty_AskError kp_AskError at_xAskError wn_AskError hx_AskError c_LETTERS c_MOST_LETTERS c_MAIN n_all n_bool n_enumerate n_int n_isinstance n_len n_list n_max n_min n_range n_set n_str n_tuple hcP).hcT,hcP⟩ (ok_law (mkTx X G l_q29 c_q29 k_q29 a_q29 l_q26 c_q26 k_q26 a_q26 l_q27 c_q27 k_q27 a_q27 l_q6 c_q6 k_q6 a_q6 l_q28 c_q28 k_q28 a_q28 l_q24 c_q24 k_q24 a_q24 l_q23 c_q23 k_q23 a_q23 l_q4 c_q4 k_q4 l_q0 c_q0 k_q0 l_q16 c_q16 k_q16 l_changed c_changed k_changed a_changed l_q7 c_q7 k_q7 a_q7 l_q30 c_q30 k_q30 a_q30 l_q17 c_q17 k_q17 a_q17 l_q20 c_q20 k_q20 a_q20 l_q15 c_q15 k_q15 a_q15 l_q11 c_q11 k_q11 a_q11 l_q22 c_q22 k_q22 a_q22 l_q8 c_q8 k_q8 a_q8 l_q10 c_q10 k_q10 a_q10 l_q13 c_q13 k_q13 a_q13 l_q25 c_q25 k_q25 a_q25 l_q18 c_q18 k_q18 a_q18 l_q3 c_q3 k_q3 a_q3 l_q19 c_q19 k_q19 a_q19 l_q9 c_q9 k_q9 a_q9 l_q14 c_q14 k_q14 a_q14 l_q12 c_q12 k_q12 a_q12 l_q1 c_q1 k_q1 a_q1 l_q5 c_q5 k_q5 a_q5 l_q2 c_q2 k_q2 a_q2 l_q21 c_q21 k_q21 a_q21 l_law c_law k_law a_law a_Program pg_Program hd_Program po_Program sa_Program mk_Program kc_Program at_Program_init i_Program_init at_Program_definitions i_Program_definitions at_Program_eq i_Program_eq one_Program oob_Program na_definitions_kept l_einit c_einit k_einit ti_einit cg cta a_NoProgram xl_NoProgram rv_NoProgram sa_NoProgram be_NoProgram ty_NoProgram kp_NoProgram at_xNoProgram wn_NoProgram hx_NoProgram a_NoPlace xl_NoPlace rv_NoPlace sa_NoPlace be_NoPlace ty_NoPlace kp_NoPlace at_xNoPlace wn_NoPlace hx_NoPlace a_AskError xl_AskError rv_AskError sa_AskError be_AskError ty_AskError kp_AskError at_xAskError wn_AskError hx_AskError c_LETTERS c_MOST_LETTERS c_MAIN n_all n_bool n_enumerate n_int n_isinstance n_len n_list n_max n_min n_range n_set n_str n_tuple hcP) (TB (cT,pT) (List.mem_singleton.mpr rfl))) rfl⟩
end K38
namespace K38
open PySem PySem.Spec PyProof.Rows L2 PL
structure Tray (t g:Nat) (B:Nat) (S:Sto):Prop where
 ne:t ≠ g
 ex:∃ (gs:List Int) (b f c:Int),S[t]? = some (.lst [.loc g,.int b,.int f,.int c])∧S[g]? = some (.lst (gs.map PV.int))∧0 ≤ f∧f < 2305843009213693951∧0 ≤ c∧c ≤ B
theorem Tray.keep {t g B:Nat} {M:List Nat} {S S':Sto} (T:Tray t g B S) (k:Keep M S S') (ht:t ∉ M) (hg:g ∉ M):Tray t g B S':=by
 obtain ⟨gs,b,f,c,h1,h2,h3⟩:=T.ex
 exact ⟨T.ne,gs,b,f,c,k.get h1 ht,k.get h2 hg,h3⟩
theorem Tray.up {t g B B':Nat} {S:Sto} (T:Tray t g B S) (h:B ≤ B'):Tray t g B' S:=by
 obtain ⟨gs,b,f,c,h1,h2,h3,h4,h5,h6⟩:=T.ex
 exact ⟨T.ne,gs,b,f,c,h1,h2,h3,h4,h5,by omega⟩
theorem Tray.lt {t g B:Nat} {S:Sto} (T:Tray t g B S):t < S.length∧g < S.length:=by
 obtain ⟨gs,b,f,c,h1,h2,_⟩:=T.ex
 exact ⟨lt_of_get h1,lt_of_get h2⟩
theorem map_split {α β : Type} {f : α→β} {ns:List α} {dn rs:List β} {p : β} (h:ns.map f = dn ++ p :: rs):∃ n,p = f n∧n ∈ ns:=by
 have:p ∈ ns.map f:=by rw [h]; simp
 obtain ⟨n,hn,e⟩:=List.mem_map.mp this
 exact ⟨n,e.symm,hn⟩
theorem draw_wp {t g B:Nat} {S:Sto} {m:Int} (T:Tray t g B S) (hB:B < 1000000000000000000) (hm:0 < m) (hm2:m ≤ 1000000000000000) {P:PV→Sto→Prop} {R:Str→PV→Sto→Prop}
  (h:∀ (n:Int) S',0 ≤ n→n < m→Tray t g (B + 1) S'→Keep [t,g] S S'→P (.int n) S'):wp (m_q20 [.loc t,.int m] S) P R:=by
 unfold m_q20
 rw [callS_wp]
 simp [startE]
 obtain ⟨gs,b,f,c,h1,h2,f0,f1,c0,c1⟩:=T.ex
 refine while_wp (fun m' τ S' => τ = [some (.loc t),some (.int m),none,none]∧Keep [t,g] S S'∧∃ (gs:List Int) (b:Int),gs.length = m'∧S'[t]? = some (.lst [.loc g,.int b,.int f,.int c])∧S'[g]? = some (.lst (gs.map PV.int)))
  ⟨rfl,.refl,gs,b,rfl,h1,h2⟩ ?_
 rintro m' τ S1 C J ⟨rfl,K,gs,b,rfl,q1,q2⟩ hT hF hJ
 have ne:=T.ne
 have hend:∀ S2,Keep [t,g] S S2→S2[t]? = some (.lst [.loc g,.int b,.int f,.int c])→S2[g]? = some (.lst (gs.map PV.int))→C false S2:=by
  intro S2 K q1 q2
  refine hF S2 ?_
  simp [q1]
  constructor
  ·intro hb
   refine ⟨hm,by omega,?_⟩
   refine h _ _ (Int.emod_nonneg _ (by omega)) (Int.emod_lt_of_pos _ hm) ?_ (K.trans (.set (by simp)))
   exact ⟨T.ne,gs,b / m,f,c,set_get q1,by rw [List.getElem?_set_ne ne]; exact q2,f0,f1,c0,by omega⟩
  ·intro hb
   simp [set_get q1]
   generalize hX:(f + 5) * (c + 1 + 2) ^ 3 + 1000003 * (c + 1) = X
   have x0:0 ≤ X % 2305843009213693951:=Int.emod_nonneg _ (by decide)
   have x1:X % 2305843009213693951 < 2305843009213693951:=Int.emod_lt_of_pos _ (by decide)
   refine ⟨by omega,.inl ⟨by omega,by omega⟩,by omega,hm,?_⟩
   refine h _ _ (Int.emod_nonneg _ (by omega)) (Int.emod_lt_of_pos _ hm) ?_ (K.trans (.set (by simp)))
   exact ⟨T.ne,gs,b,f,c + 1,set_get q1,by rw [List.getElem?_set_ne ne]; exact q2,f0,f1,by omega,by omega⟩
 simp [q1]
 constructor
 ·intro hb
  have lt:=lt_of_get q2
  have e2:(S1 ++ [Ob.lst []])[g]? = some (.lst (gs.map PV.int)):=by rw [List.getElem?_append_left lt]; exact q2
  have e1:(S1 ++ [Ob.lst []])[t]? = some (.lst [.loc g,.int b,.int f,.int c]):=by rw [List.getElem?_append_left (lt_of_get q1)]; exact q1
  obtain ⟨bb,he,hbb⟩:=eqB_lists (n:=0) (by decide) e2 (app_new (S:=S1) (o:=.lst [])) (PlL_iff.mpr fun x hx => by obtain ⟨i,_,rfl⟩:=List.mem_map.mp hx; simp [Pl]) (by simp [PlL])
  simp [he]
  have K2:Keep [t,g] S (S1 ++ [Ob.lst []]):=K.trans .app
  cases hgs:gs with
  | nil =>
   have:bb = true:=hbb.mpr (by simp [hgs])
   subst this
   exact hend _ K2 e1 e2
  | cons n gs' =>
   have:bb = false:=by
    cases bb with
    | false => rfl
    | true => have:=hbb.mp rfl; simp [hgs] at this
   subst this
   subst hgs
   refine hT _ ?_
   generalize hS2:S1 ++ [Ob.lst []] = S2 at *
   have e3:(S2.set g (.lst (gs'.map PV.int)))[t]? = some (.lst [.loc g,.int b,.int f,.int c]):=by rw [List.getElem?_set_ne (Ne.symm ne)]; exact e1
   have ix:ixN (gs'.length + 1) 0 = some 0:=by
    unfold ixN; rw [if_pos (by omega),if_pos (by omega)]; rfl
   simp [e1,e2,e3,ix]
   refine hJ gs'.length _ _ (by simp) ⟨rfl,(K2.trans (.set (by simp))).trans (.set (by simp)),gs',n,rfl,set_get e3,?_⟩
   rw [List.getElem?_set_ne ne]
   exact set_get e2
 ·intro hb
  exact hend _ K q1 q2
end K38
namespace K38
open PySem PySem.Spec PyProof.Rows L2 PL
theorem great_wp {t g B:Nat} {S:Sto} (T:Tray t g B S) (hB:B < 100000000000000000) {P:PV→Sto→Prop} {R:Str→PV→Sto→Prop}
  (h:∀ (n:Int) S',Tray t g (B + 4) S'→Keep [t,g] S S'→P (.int n) S'):wp (m_q15 [.loc t] S) P R:=by
 unfold m_q15
 rw [callS_wp]
 simp [startE]
 refine draw_wp T (by omega) (by decide) (by decide) ?_
 intro n S1 _ _ T1 K1
 simp [rngOk]
 refine for_wp (fun dn rs τ S' => ∃ (n:Int) (x:Option PV),τ = [some (.loc t),some (.int n),x]∧Tray t g (B + 1 + dn.length) S'∧Keep [t,g] S S') ⟨n,none,rfl,T1,K1⟩ ?_ ?_
 ·rintro dn p rs τ S2 J e ⟨n,x,rfl,T2,K2⟩ hJ
  have hd:dn.length < 3:=by
   have:=congrArg List.length e
   simp [rngI] at this; omega
  simp
  refine draw_wp T2 (by omega) (by decide) (by decide) ?_
  intro n' S3 _ _ T3 K3
  simp
  exact hJ _ _ ⟨_,_,rfl,by simpa [Nat.add_assoc] using T3,K2.trans K3⟩
 ·rintro τ S2 ⟨n,x,rfl,T2,K2⟩
  simp
  refine h _ _ (T2.up ?_) K2
  simp [rngI]
theorem whole_wp {t g B:Nat} {S:Sto} (T:Tray t g B S) (hB:B < 10000000000000000) {P:PV→Sto→Prop} {R:Str→PV→Sto→Prop}
  (h:∀ (n:Int) S',Tray t g (B + 7) S'→Keep [t,g] S S'→P (.int n) S'):wp (m_q10 [.loc t] S) P R:=by
 unfold m_q10
 rw [callS_wp]
 simp [startE]
 refine draw_wp T (by omega) (by decide) (by decide) ?_
 intro n S1 h0 h1 T1 K1
 simp
 constructor
 ·intro _
  refine great_wp T1 (by omega) ?_
  intro n2 S2 T2 K2
  simp
  refine draw_wp T2 (by omega) (by decide) (by decide) ?_
  intro n3 S3 _ _ T3 K3
  simp
  refine draw_wp T3 (by omega) (by decide) (by decide) ?_
  intro n4 S4 _ _ T4 K4
  simp
  refine ⟨by omega,h _ _ (T4.up (by omega)) (((K1.trans K2).trans K3).trans K4)⟩
 ·intro _
  have T1':Tray t g (B + 1) (S1 ++ [Ob.lst [PV.int 0,PV.int 1,PV.int 5,PV.int 99,PV.int 100,PV.int (-1),PV.int (-7),PV.int 12]]):=T1.keep (M:=[]) .app (by simp) (by simp)
  refine draw_wp T1' (by omega) (by decide) (by decide) ?_
  intro n2 S2 h0 h1 T2 K2
  have e:=K2.get (app_new (S:=S1) (o:=.lst [PV.int 0,PV.int 1,PV.int 5,PV.int 99,PV.int 100,PV.int (-1),PV.int (-7),PV.int 12])) (by have:=T1.lt; simp; omega)
  simp [e]
  obtain ⟨x,hx,_,hm⟩:=atI_nat (xs:=[PV.int 0,PV.int 1,PV.int 5,PV.int 99,PV.int 100,PV.int (-1),PV.int (-7),PV.int 12]) (i:=n2) h0 (by simpa using h1)
  rw [hx]
  simp
  have:∃ n,x = PV.int n:=by
   simp at hm
   rcases hm with rfl | rfl | rfl | rfl | rfl | rfl | rfl | rfl <;> exact ⟨_,rfl⟩
  obtain ⟨n,rfl⟩:=this
  exact h _ _ (T2.up (by omega)) ((K1.trans .app).trans K2)
end K38
namespace K38
open PySem PySem.Spec PyProof.Rows L2 PL
def bars:List Str:=["", "main", "def", "end", "read", "clean", "call", "send", "give", "if", "else"]
def wordsN:List Str:=["set", "copy", "add", "num", "not", "same", "sends", "next", "ends", "mains", "calls", "none"]
theorem wordsN_ok:∀ x ∈ wordsN,Lw x∧x.length ≤ 8:=by
 simp only [wordsN,List.forall_mem_cons,Lw]
 decide +kernel
theorem names_plain {us:List Str} (h:∀ u ∈ us,Nm u) (n:Nat):PlL n (us.map PV.str):=PlL_iff.mpr fun x hx => by
 obtain ⟨u,hu,rfl⟩:=List.mem_map.mp hx
 exact (h u hu).l.plain n
def one (c:Nat):Str:=⟨#[c]⟩
def abcS:List Str:=(List.range' 97 26).map one
theorem name_wp {t g B u:Nat} {S:Sto} {us:List Str} (T:Tray t g B S) (hB:B < 10000000000000000) (hu:S[u]? = some (.lst (us.map PV.str))) (hut:u ≠ t) (hug:u ≠ g) (hn:∀ x ∈ us,Nm x) (hl:us.length ≤ 10) {P:PV→Sto→Prop} {R:Str→PV→Sto→Prop}
  (h:∀ (x:Str) S',Nm x→x ∉ us→x ∉ bars→Tray t g (B + 15) S'→Keep [t,g] S S'→P (.str x) S'):wp (m_q22 [.loc t,.loc u] S) P R:=by
 unfold m_q22
 rw [callS_wp]
 simp [startE]
 refine draw_wp T (by omega) (by decide) (by decide) ?_
 intro lot S1 l0 l1 T1 K1
 simp
 refine draw_wp T1 (by omega) (by decide) (by decide) ?_
 intro n2 S2 h0 h1 T2 K2
 obtain ⟨c,hc,hL⟩:=abc_at h0 (by simpa using h1)
 have len26:=abc_len
 simp [hc,len26]
 refine draw_wp T2 (by omega) (by decide) (by decide) ?_
 intro n3 S3 h0 h1 T3 K3
 simp
 refine ⟨by unfold rngOk; omega,?_⟩
 have K03:Keep [t,g] S S3:=(K1.trans K2).trans K3
 refine acc_wp (fun dn rs acc S' => ∃ cs:List Nat,acc = cs.map (fun c => PV.str (one c))∧cs.length = dn.length∧(∀ c ∈ cs,Lt c)∧Tray t g (B + 3 + dn.length) S'∧Keep [t,g] S S') ⟨[],rfl,rfl,by simp,T3,K03⟩ ?_ ?_
 ·rintro dn p rs acc S4 J e ⟨cs,rfl,hcs,hLt,T4,K4⟩ hJ
  have hd:dn.length < 8:=by
   have:=congrArg List.length e
   simp [rngI] at this; omega
  simp [wipeE,stepE_wp]
  refine draw_wp T4 (by omega) (by decide) (by decide) ?_
  intro n5 S5 h0 h1 T5 K5
  obtain ⟨c,hc,hL⟩:=abc_at h0 (by simpa using h1)
  simp [hc,len26]
  refine ⟨by omega,hJ _ _ ⟨cs ++ [c],by simp [one],by simp [hcs],?_,by simpa [Nat.add_assoc] using T5,K4.trans K5⟩⟩
  intro d hd
  rcases List.mem_append.mp hd with q | q
  ·exact hLt d q
  ·simp at q; subst q; exact hL
 ·rintro acc S4 ⟨cs,rfl,hcs,hLt,T4,K4⟩
  have hd:cs.length ≤ 8:=by
   rw [hcs]; simp [rngI]; omega
  have eI:itemsP (.loc S4.length) (S4 ++ [Ob.lst (cs.map fun c => PV.str (one c))]) = some ((cs.map one).map PV.str):=by simp
  have e2:(Str.ofString "").length = 0:=by decide +kernel
  have e3:(List.map ((fun x => x.length) ∘ one) cs).sum ≤ 16777216:=by
   have:∀ l:List Nat,(List.map ((fun x => x.length) ∘ one) l).sum = l.length:=by
    intro l
    induction l with
    | nil => rfl
    | cons a l ih => simp [one,Str.length] at ih ⊢; omega
   rw [this]; omega
  simp [eI,strsP_comp',e2,e3,-e_seqS]
  have T5:Tray t g (B + 11) (S4 ++ [Ob.lst (cs.map fun c => PV.str (one c))]):=(T4.up (by have:(rngI 0 (1 + n3)).length ≤ 8:=by { rw [← hcs]; exact hd }; omega)).keep (M:=[]) .app (by simp) (by simp)
  have K5:Keep [t,g] S (S4 ++ [Ob.lst (cs.map fun c => PV.str (one c))]):=K4.trans .app
  generalize S4 ++ [Ob.lst (cs.map fun c => PV.str (one c))] = S5 at *
  obtain ⟨nm,hnm⟩:∃ x:Str,Txt.join (Str.ofString "") (cs.map one) = x:=⟨_,rfl⟩
  have hw:Lw nm∧nm.length ≤ 8:=by
   have:ch nm = cs:=by
    rw [← hnm,empty_str,ch_join0,List.map_map]
    have:∀ l:List Nat,(l.map (ch ∘ one)).flatten = l:=by
     intro l
     induction l with
     | nil => rfl
     | cons a l ih => simp [one,ch] at ih ⊢; exact ih
    exact this cs
   exact ⟨fun c hc => hLt c (by rw [← this]; exact hc),by rw [← ch_len,this]; exact hd⟩
  rw [hnm,e_seqS,e_seqO]
  refine wpS_mid (fun τ' S' => ∃ (x:Str) (a b d:Option PV),τ' = [some (.loc t),some (.loc u),some (.str "abcdefghijklmnopqrstuvwxyz"),some (.int lot),some (.str ⟨#[c]⟩),some (.str x),none,none,a,b,d,none,none]∧Lw x∧x.length ≤ 8∧Tray t g (B + 14) S'∧Keep [t,g] S S') ?_ ?_
  ·intro J hJ
   simp
   constructor
   ·intro _
    have T6:Tray t g (B + 11) (S5 ++ [Ob.lst (wordsN.map PV.str)]):=T5.keep (M:=[]) .app (by simp) (by simp)
    refine draw_wp T6 (by omega) (by decide) (by decide) ?_
    intro n6 S6 h0 h1 T6 K6
    have e:=K6.get (app_new (S:=S5) (o:=.lst (wordsN.map PV.str))) (by have:=T5.lt; simp; omega)
    obtain ⟨x,hx,_,hm⟩:=atI_nat (xs:=wordsN.map PV.str) (i:=n6) h0 (by simpa [wordsN] using h1)
    obtain ⟨w,hw,rfl⟩:=List.mem_map.mp hm
    simp [e,hx]
    exact hJ _ _ ⟨w,_,_,_,rfl,(wordsN_ok w hw).1,(wordsN_ok w hw).2,T6.up (by omega),(K5.trans .app).trans K6⟩
   ·intro hl4
    constructor
    ·intro hlp
     have hu5:=K5.get hu (by simp [hut,hug])
     have hu6:(S5 ++ [Ob.lst []])[u]? = some (.lst (us.map PV.str)):=by rw [List.getElem?_append_left (lt_of_get hu5)]; exact hu5
     obtain ⟨bb,he,hbb⟩:=eqB_lists (n:=0) (by decide) hu6 (app_new (S:=S5) (o:=.lst [])) (names_plain hn 0) (by simp [PlL])
     have T6:Tray t g (B + 11) (S5 ++ [Ob.lst []]):=T5.keep (M:=[]) .app (by simp) (by simp)
     have K6:Keep [t,g] S (S5 ++ [Ob.lst []]):=K5.trans .app
     simp [he]
     generalize S5 ++ [Ob.lst []] = S6 at *
     constructor
     ·intro hb
      simp [hu6]
      have hpos:0 < us.length:=by
       cases us with
       | nil => have:bb = true:=hbb.mpr rfl; simp [this] at hb
       | cons a l => simp
      refine draw_wp T6 (by omega) (by omega) (by omega) ?_
      intro n7 S7 h0 h1 T7 K7
      have hu7:=K7.get hu6 (by simp [hut,hug])
      obtain ⟨x,hx,_,hm⟩:=atI_nat (xs:=us.map PV.str) (i:=n7) h0 (by simpa using h1)
      obtain ⟨w,hw,rfl⟩:=List.mem_map.mp hm
      have ho:=hn w hw
      have hq:=ho.q
      simp [hu7,hx]
      refine ⟨by omega,?_⟩
      refine draw_wp T7 (by omega) (by omega) (by omega) ?_
      intro n8 S8 h0 h1 T8 K8
      have c1:(cutS w none (some n8)).length ≤ 8:=Nat.le_trans (cut_le _ _ _) hq
      have c2:∀ k,(cutS w (some k) none).length ≤ 8:=fun k => Nat.le_trans (cut_le _ _ _) hq
      have c3:=c2 n8
      have c4:=c2 (n8 + 1)
      have T9:∀ o o',Tray t g (B + 14) (S8 ++ [o] ++ [o']):=fun o o' => ((T8.up (by omega)).keep (M:=[]) .app (by simp) (by simp)).keep (M:=[]) .app (by simp) (by simp)
      have K9:∀ o o',Keep [t,g] S (S8 ++ [o] ++ [o']):=fun o o' => (((K6.trans K7).trans K8).trans .app).trans .app
      have lE:(Str.ofString "").length = 0:=by decide +kernel
      have l1:Str.length { cps:=#[c] } = 1:=rfl
      have w1:Lw { cps:=#[c] }:=.one hL
      have wE:Lw (Str.ofString ""):=by rw [empty_str]; exact .nil
      have dn:∀ y z v:Str,Lw y→Lw z→Lw v→Lw (cutS (y ++ z ++ v) none (some 8)):=fun y z v a b c => ((a.app b).app c).cut _ _
      obtain rfl | rfl | rfl:lot = 1 ∨ lot = 2 ∨ lot = 3:=by omega
      all_goals
       simp [len_app,lE,l1]
       refine ⟨by omega,by omega,by omega,by omega,hJ _ _ ⟨_,_,_,_,rfl,dn _ _ _ (ho.l.cut _ _) ?_ (ho.l.cut _ _),cut_8 _,?_,?_⟩⟩
       ·first | exact w1 | exact wE
       ·simpa using T9 _ _
       ·simpa using K9 _ _
     ·intro hb
      exact hJ _ _ ⟨_,_,_,_,rfl,hw.1,hw.2,T6.up (by omega),K6⟩
    ·intro hlp
     exact hJ _ _ ⟨_,_,_,_,rfl,hw.1,hw.2,T5.up (by omega),K5⟩
  ·rintro τ' S6 ⟨x,a,b,d,rfl,hwx,hlx,T6,K6⟩
   have hL26:∀ c ∈ (Str.ofString "abcdefghijklmnopqrstuvwxyz").cps.toList,Lt c:=fun c hc => abc_mem.mp hc
   have hsz:(Str.ofString "abcdefghijklmnopqrstuvwxyz").cps.toList.length = 26:=by rw [show (Str.ofString "abcdefghijklmnopqrstuvwxyz").cps.toList = ch (Str.ofString "abcdefghijklmnopqrstuvwxyz") from rfl,ch_len]; exact abc_len
   simp [-zq0,-zq1,-zq2]
   refine lst_wp (by simp) ?_
   intro n1 S7 e1 k1 _
   simp [-zq0,-zq1,-zq2]
   refine acc_map (fun c => PV.str ⟨#[c]⟩) (fun c => PV.str (one c)) (by simp) (by rw [hsz]; decide) (fun c hc acc J hl hJ => ⟨_,rfl,by simp [wipeE,stepE_wp,hl]; exact hJ⟩) ?_
   refine new_wp ?_
   intro n2 S8 e2 k2 _
   simp [-zq0,-zq1,-zq2]
   refine addL_wp (k2.get e1 (by simp)) e2 (by simp only [List.length_append,List.length_map,List.length_cons,List.length_nil,hsz]; decide) ?_
   intro n3 S9 e3 k3 _
   simp [-zq0,-zq1,-zq2]
   refine acc_map (fun c => PV.str ⟨#[c]⟩) (fun c => PV.str (Txt.mul (one c) 3)) (by simp) (by rw [hsz]; decide) (fun c hc acc J hl hJ => ⟨_,rfl,by simp [wipeE,stepE_wp,hl,Str.length]; exact hJ⟩) ?_
   refine new_wp ?_
   intro n4 S10 e4 k4 _
   simp [-zq0,-zq1,-zq2]
   refine addL_wp (k4.get e3 (by simp)) e4 (by simp only [List.length_append,List.length_map,List.length_cons,List.length_nil,hsz]; decide) ?_
   intro n5 S11 e5 k5 _
   simp [-zq0,-zq1,-zq2]
   refine acc_map (fun c => PV.str ⟨#[c]⟩) (fun c => PV.str (Txt.mul (one c) 5)) (by simp) (by rw [hsz]; decide) (fun c hc acc J hl hJ => ⟨_,rfl,by simp [wipeE,stepE_wp,hl,Str.length]; exact hJ⟩) ?_
   refine new_wp ?_
   intro n6 S12 e6 k6 _
   simp [-zq0,-zq1,-zq2]
   refine addL_wp (k6.get e5 (by simp)) e6 (by simp only [List.length_append,List.length_map,List.length_cons,List.length_nil,hsz]; decide) ?_
   intro n7 S13 e7 k7 _
   simp [-zq0,-zq1,-zq2]
   refine lst_wp (by simp) ?_
   intro n8 S14 e8 k8 _
   generalize hcps:(Str.ofString "abcdefghijklmnopqrstuvwxyz").cps.toList = cps at *
   obtain ⟨sm,hsm⟩:∃ sm:List Str,sm = [x] ++ cps.map one ++ cps.map (fun c => Txt.mul (one c) 3) ++ cps.map (fun c => Txt.mul (one c) 5):=⟨_,rfl⟩
   have e7':S14[n7]? = some (.lst (sm.map PV.str)):=by
    refine (k8.get e7 (by simp)).trans ?_
    rw [hsm]
    simp [List.map_map,Function.comp_def]
   have e8':S14[n8]? = some (.lst (bars.map PV.str)):=e8
   have K38:Keep [t,g] S S14:=by
    refine K6.trans ?_
    exact (((((((k1.trans k2).trans k3).trans k4).trans k5).trans k6).trans k7).trans k8).mono (by simp)
   have K614:Keep [] S6 S14:=(((((((k1.trans k2).trans k3).trans k4).trans k5).trans k6).trans k7).trans k8)
   have T14:Tray t g (B + 14) S14:=T6.keep K614 (by simp) (by simp)
   have hu14:S14[u]? = some (.lst (us.map PV.str)):=K38.get hu (by simp [hut,hug])
   simp [-zq0,-zq1,-zq2,e7']
   have hlen:sm.length = 79:=by rw [hsm]; simp [hsz]
   refine acc_wp (fun dn rs acc S' => ∃ ds:List Str,dn = ds.map PV.str∧acc = (ds.filter fun y => decide (y ∉ us ++ bars)).map PV.str∧Keep [] S14 S') ⟨[],rfl,rfl,.refl⟩ ?_ ?_
   ·rintro dn p rs acc S15 J e ⟨ds,rfl,rfl,k15⟩ hJ
    obtain ⟨y,rfl,hy⟩:=map_split e
    refine ⟨by simp; exact k15.get e7' (by simp),_,rfl,?_⟩
    simp [wipeE,stepE_wp,-zq0,-zq1,-zq2]
    have hds:ds.length < 79:=by
     have:=congrArg List.length e
     simp [hlen] at this; omega
    refine addL_wp (k15.get hu14 (by simp)) (k15.get e8' (by simp)) (by simp [bars]; omega) ?_
    intro n9 S16 e9 k16 _
    have e9':S16[n9]? = some (.lst ((us ++ bars).map PV.str)):=by rw [e9]; simp
    have hin:=inB_strs (x:=y) e9'
    simp [hin,-List.mem_append]
    have hfl:(ds.filter fun y => decide (y ∉ us ++ bars)).length ≤ ds.length:=List.length_filter_le _ _
    by_cases hm:y ∈ us ++ bars
    ·simp only [hm,not_true_eq_false,false_implies,not_false_eq_true,true_implies,true_and,and_true,decide_true,decide_false]
     refine hJ _ _ ⟨ds ++ [y],by simp,?_,k15.trans k16⟩
     rw [List.filter_append]
     simp only [List.filter_cons,List.filter_nil,hm,not_true_eq_false,decide_false]
     simp
    ·simp only [hm,not_true_eq_false,false_implies,not_false_eq_true,true_implies,true_and,and_true,decide_true,decide_false]
     refine ⟨Nat.lt_of_le_of_lt (List.length_filter_le _ _) (Nat.lt_trans hds (by decide)),hJ _ _ ⟨ds ++ [y],by simp,?_,k15.trans k16⟩⟩
     rw [List.filter_append]
     simp only [List.filter_cons,List.filter_nil,hm,not_false_eq_true,decide_true]
     simp
   ·rintro acc S15 ⟨ds,hds,rfl,k15⟩
    have:ds = sm:=by
     have:=congrArg (fun l => strsP l) hds
     simp only [strsP_map] at this
     exact (Option.some.inj this).symm
    subst this
    refine ⟨by simp; exact k15.get e7' (by simp),?_⟩
    refine new_wp ?_
    intro n9 S16 e9 k16 _
    have hex:∃ y ∈ ds,y ∉ us ++ bars:=by
     obtain ⟨y,hy,hyu⟩:=some_out (xs:=abcS) (us:=us) (by decide +kernel) (by simp [abcS]; omega)
     have hyb:y ∉ bars:=(by decide +kernel:∀ y ∈ abcS,y ∉ bars) y hy
     refine ⟨y,?_,by simp [hyu,hyb]⟩
     obtain ⟨c,hc,rfl⟩:=List.mem_map.mp hy
     have:c ∈ cps:=by rw [← hcps]; show c ∈ ch _; rw [abc_ch]; exact hc
     rw [hsm]
     simp only [List.mem_append,List.mem_map]
     exact .inl (.inl (.inr ⟨c,this,rfl⟩))
    obtain ⟨y,hy,hyn⟩:=hex
    have hmem:y ∈ ds.filter fun y => decide (y ∉ us ++ bars):=List.mem_filter.mpr ⟨hy,by simpa using hyn⟩
    cases hf:ds.filter (fun y => decide (y ∉ us ++ bars)) with
    | nil => rw [hf] at hmem; simp at hmem
    | cons w r =>
     have hw:w ∈ ds.filter fun y => decide (y ∉ us ++ bars):=by rw [hf]; simp
     obtain ⟨hw1,hw2⟩:=List.mem_filter.mp hw
     have hw2:w ∉ us ++ bars:=by simpa using hw2
     rw [hf] at e9
     simp [e9]
     have hwn:Lw w∧w.length ≤ 8:=by
      rw [hsm] at hw1
      simp only [List.mem_append,List.mem_map,List.mem_singleton] at hw1
      have rep:∀ (c k:Nat),Lt c→k ≤ 8→Lw (Txt.mul (one c) (k:Int))∧(Txt.mul (one c) (k:Int)).length ≤ 8:=fun c k hc hk => by
       have e:ch (Txt.mul (one c) (k:Int)) = List.replicate k c:=by rw [one,ch_mul1]; simp
       refine ⟨fun d hd => ?_,?_⟩
       ·rw [e] at hd
        rw [(List.mem_replicate.mp hd).2]; exact hc
       ·rw [← ch_len,e]; simpa using hk
      rcases hw1 with ((rfl | ⟨c,hc,rfl⟩) | ⟨c,hc,rfl⟩) | ⟨c,hc,rfl⟩
      ·exact ⟨hwx,hlx⟩
      ·exact ⟨.one (hL26 c hc),by simp [one,Str.length]⟩
      ·exact rep c 3 (hL26 c hc) (by decide)
      ·exact rep c 5 (hL26 c hc) (by decide)
     have hne:1 ≤ w.length:=by
      rcases Nat.eq_zero_or_pos w.length with z | z
      ·exfalso
       apply hw2
       have:w = Str.ofString "" := by
        rw [empty_str]
        apply ch_ext
        have:(ch w).length = 0:=by rw [ch_len]; exact z
        simpa [ch] using this
       rw [this]
       simp [bars]
      ·exact z
     refine h w S16 ⟨hwn.1,hne,hwn.2⟩ (fun z => hw2 (List.mem_append_left _ z)) (fun z => hw2 (List.mem_append_right _ z)) ?_ ?_
     ·exact (T14.keep (k15.trans k16) (by simp) (by simp)).up (by omega)
     ·exact K38.trans ((k15.trans k16).mono (by simp))
end K38
namespace K38
open PySem PySem.Spec PyProof.Rows L2 PL
theorem names_wp {t g B e:Nat} {S:Sto} {m:Int} (T:Tray t g B S) (hB:B < 1000000000000000) (he:S[e]? = some (.lst [])) (het:e ≠ t) (heg:e ≠ g) (hm0:0 ≤ m) (hm:m ≤ 6) {P:PV→Sto→Prop} {R:Str→PV→Sto→Prop}
  (h:∀ (n:Nat) (xs:List Str) S',S'[n]? = some (.lst (xs.map PV.str))→S.length ≤ n→(xs.length:Int) = m→xs.Nodup→(∀ x ∈ xs,Nm x)→(∀ x ∈ xs,x ∉ bars)→Tray t g (B + 90) S'→Keep [t,g] S S'→P (.loc n) S'):wp (m_q8 [.loc t,.int m,.loc e] S) P R:=by
 unfold m_q8
 rw [callS_wp]
 simp [startE,-zq0,-zq1,-zq2]
 refine lst_wp (by simp) ?_
 intro n S1 e1 k1 hn
 have T1:=T.keep k1 (by simp) (by simp)
 simp [-zq0,-zq1,-zq2]
 have ltT:=T.lt
 have ltE:=lt_of_get he
 refine ⟨by unfold rngOk; omega,?_⟩
 refine for_wp (fun dn rs τ S' => ∃ (xs:List Str) (x:Option PV),τ = [some (.loc t),some (.int m),some (.loc e),some (.loc n),x]∧S'[n]? = some (.lst (xs.map PV.str))∧xs.length = dn.length∧xs.Nodup∧(∀ x ∈ xs,Nm x)∧(∀ x ∈ xs,x ∉ bars)∧Tray t g (B + 15 * dn.length) S'∧Keep [t,g,n] S1 S')
  ⟨[],none,rfl,e1,rfl,List.nodup_nil,by simp,by simp,T1,.refl⟩ ?_ ?_
 ·rintro dn p rs τ S2 J eq ⟨xs,x,rfl,e2,hl,nd,hN,hb,T2,k2⟩ hJ
  have hd:dn.length < 6:=by
   have:=congrArg List.length eq
   simp [rngI] at this; omega
  have e2':S2[e]? = some (.lst []):=k2.get (k1.get he (by simp)) (by simp [het,heg]; omega)
  simp [e2,-zq0,-zq1,-zq2]
  refine addL_wp e2' e2 (by simp; omega) ?_
  intro u S3 e3 k3 hu
  have T3:=T2.keep k3 (by simp) (by simp)
  have ltT3:=T2.lt
  have ltn:=lt_of_get e2
  refine name_wp (us:=xs) T3 (by omega) (by simpa using e3) (by omega) (by omega) hN (by omega) ?_
  intro x S4 hx hx1 hx2 T4 k4
  have e4:S4[n]? = some (.lst (xs.map PV.str)):=k4.get (k3.get e2 (by simp)) (by simp; omega)
  simp [e4]
  refine ⟨by omega,hJ _ _ ⟨xs ++ [x],_,rfl,?_,by simp [hl],?_,?_,?_,?_,?_⟩⟩
  ·rw [set_get e4]; simp
  ·refine List.nodup_append.mpr ⟨nd,by simp,fun a ha b hb z => ?_⟩
   simp at hb; subst hb; subst z; exact hx1 ha
  ·intro y hy
   rcases List.mem_append.mp hy with q | q
   ·exact hN y q
   ·simp at q; subst q; exact hx
  ·intro y hy
   rcases List.mem_append.mp hy with q | q
   ·exact hb y q
   ·simp at q; subst q; exact hx2
  ·have:Tray t g (B + 15 * (dn.length + 1)) S4:=T4.up (by omega)
   simpa using this.keep (M:=[n]) (.set (by simp)) (by simp; omega) (by simp; omega)
  ·exact ((k2.trans (k3.mono (by simp))).trans (k4.mono fun x hx _ => by simp at hx ⊢; omega)).trans (.set (by simp))
 ·rintro τ S2 ⟨xs,x,rfl,e2,hl,nd,hN,hb,T2,k2⟩
  have hlm:(rngI 0 m).length = m.toNat:=by simp [rngI]
  simp
  refine h n xs S2 e2 hn (by rw [hl,hlm]; omega) nd hN hb (T2.up (by rw [hlm]; omega)) ?_
  exact ((k1.mono (by simp)).trans k2).mono fun x hx hlt => by simp at hx ⊢; omega
structure Gen (t g ow he le:Nat) (ns:List Str) (hs:List Hd) (S:Sto):Prop where
 o:S[ow]? = some (.lst (ns.map PV.str))
 h:S[he]? = some (.lst (hs.map Hd.pv))
 ot:ow ≠ t
 og:ow ≠ g
 ol:ow ≠ le
 ht:he ≠ t
 hg:he ≠ g
 hl:he ≠ le
 lt:le ≠ t
 lg:le ≠ g
 n0:0 < ns.length
 n1:ns.length ≤ 100
 h0:0 < hs.length
 h1:hs.length ≤ 100
 hp:∀ x ∈ hs,x.2.length ≤ 4
theorem Gen.keep {t g ow he le:Nat} {ns:List Str} {hs:List Hd} {S S':Sto} {M:List Nat} (G:Gen t g ow he le ns hs S) (k:Keep M S S') (h1:ow ∉ M) (h2:he ∉ M):Gen t g ow he le ns hs S' :=
 ⟨k.get G.o h1,k.get G.h h2,G.ot,G.og,G.ol,G.ht,G.hg,G.hl,G.lt,G.lg,G.n0,G.n1,G.h0,G.h1,G.hp⟩
theorem pick {t g B l:Nat} {S:Sto} {α : Type} {f : α→PV} {xs:List α} (T:Tray t g B S) (hB:B < 1000000000000000) (e:S[l]? = some (.lst (xs.map f))) (h0:0 < xs.length) (h1:xs.length ≤ 100) (ht:l ≠ t) (hg:l ≠ g) {P:PV→Sto→Prop} {R:Str→PV→Sto→Prop}
  (h:∀ (i:Int) x S',x ∈ xs→Tray t g (B + 1) S'→Keep [t,g] S S'→S'[l]? = some (.lst (xs.map f))→atI (xs.map f) i = some (f x)→P (.int i) S'):wp (m_q20 [.loc t,.int (xs.length:Int)] S) P R:=by
 refine draw_wp T (by omega) (by omega) (by omega) ?_
 intro i S' i0 i1 T' k
 obtain ⟨x,hx,_,hm⟩:=atI_nat (xs:=xs.map f) (i:=i) i0 (by simpa using i1)
 obtain ⟨y,hy,rfl⟩:=List.mem_map.mp hm
 exact h i y S' hy T' k (k.get e (by simp [ht,hg])) hx
theorem value_wp {t g B ow he le:Nat} {ns:List Str} {hs:List Hd} {S:Sto} (T:Tray t g B S) (hB:B < 100000000000000) (G:Gen t g ow he le ns hs S) {P:PV→Sto→Prop} {R:Str→PV→Sto→Prop}
  (h:∀ (v:Vl) S',v.ok ns hs→Tray t g (B + 20) S'→Keep [t,g] S S'→P v.pv S'):wp (m_q13 [.loc t,.loc ow,.loc he] S) P R:=by
 unfold m_q13
 rw [callS_wp]
 simp [startE,-zq0,-zq1,-zq2]
 refine draw_wp T (by omega) (by decide) (by decide) ?_
 intro lot S1 l0 l1 T1 k1
 simp [rngOk,-zq0,-zq1,-zq2]
 have G1:=G.keep k1 (by simp [G.ot,G.og]) (by simp [G.ht,G.hg])
 refine acc_wp (fun dn rs acc S' => ∃ xs:List Str,acc = xs.map PV.str∧xs.length = dn.length∧(∀ x ∈ xs,x ∈ ns)∧Tray t g (B + 1 + dn.length) S'∧Keep [t,g] S S') ⟨[],rfl,rfl,by simp,T1,k1⟩ ?_ ?_
 ·rintro dn p rs acc S2 J e ⟨xs,rfl,hl,hx,T2,k2⟩ hJ
  have hd:dn.length < 4:=by
   have:=congrArg List.length e
   simp [rngI] at this; omega
  have G2:=G.keep k2 (by simp [G.ot,G.og]) (by simp [G.ht,G.hg])
  simp [wipeE,stepE_wp,G2.o,-zq0,-zq1,-zq2]
  refine pick T2 (by omega) G2.o G.n0 G.n1 G.ot G.og ?_
  intro i y S3 hy T3 k3 e3 at3
  simp [e3,at3]
  refine ⟨by omega,hJ _ _ ⟨xs ++ [y],by simp,by simp [hl],?_,by simpa [Nat.add_assoc] using T3,k2.trans k3⟩⟩
  intro z hz
  rcases List.mem_append.mp hz with q | q
  ·exact hx z q
  ·simp at q; subst q; exact hy
 ·rintro acc S2 ⟨xs,rfl,hl,hx,T2,k2⟩
  have hl4:xs.length = 4:=by rw [hl]; simp [rngI]
  have T2:Tray t g (B + 5) S2:=T2.up (by rw [← hl,hl4]; omega)
  refine ⟨by simp,new_wp ?_⟩
  intro n S3 e3 k3 _
  have T3:=T2.keep k3 (by simp) (by simp)
  have k3':Keep [t,g] S S3:=k2.trans (k3.mono (by simp))
  have G3:=G.keep k3' (by simp [G.ot,G.og]) (by simp [G.ht,G.hg])
  have ltT:=T2.lt
  obtain ⟨x0,x1,x2,x3,rfl⟩:∃ a b c d,xs = [a,b,c,d]:=by
   match xs,hl4 with
   | [a,b,c,d],_ => exact ⟨a,b,c,d,rfl⟩
  simp at hx
  simp [-zq0,-zq1,-zq2,-zq4,G3.h]
  constructor
  ·intro hlot
   refine pick T3 (by omega) G3.h G.h0 G.h1 G.ht G.hg ?_
   intro i hd S4 hhd T4 k4 e4 at4
   have e3':=k4.get e3 (by simp; omega)
   simp [e4,at4,-zq0,-zq1,-zq2,-zq4,Hd.pv,stL]
   refine slL_wp e3' ?_
   intro n5 S5 e5 k5 _
   simp [e5]
   have:=h (.call hd.1 ([x0,x1,x2,x3].take hd.2.length)) S5 ⟨fun y hy => ?_,hd.2,hhd,?_⟩ ((T4.keep k5 (by simp) (by simp)).up (by omega)) ((k3'.trans k4).trans (k5.mono (by simp)))
   ·have ec:cutP [PV.str x0,PV.str x1,PV.str x2,PV.str x3] none (some (hd.2.length:Int)) = ([x0,x1,x2,x3].take hd.2.length).map PV.str:=by rw [cut_take,List.map_take]; rfl
    rw [ec]
    exact this
   ·have:=List.mem_of_mem_take hy
    simp at this
    rcases this with rfl | rfl | rfl | rfl
    ·exact hx.1
    ·exact hx.2.1
    ·exact hx.2.2.1
    ·exact hx.2.2.2
   ·have:=G.hp hd hhd
    simp; omega
  ·intro hlot
   refine whole_wp T3 (by omega) ?_
   intro num S4 T4 k4
   have e4:=k4.get e3 (by simp; omega)
   simp [e4,-zq0,-zq1,-zq2,-zq4]
   refine lst_wp (by simp) ?_
   intro n5 S5 e5 k5 _
   simp [-zq0,-zq1,-zq2,-zq4]
   refine lst_wp (by simp) ?_
   intro n6 S6 e6 k6 _
   simp [-zq0,-zq1,-zq2,-zq4]
   refine addL_wp (k6.get e5 (by simp)) e6 (by simp) ?_
   intro n7 S7 e7 k7 _
   have T7:=(((T4.keep k5 (by simp) (by simp)).keep k6 (by simp) (by simp)).keep k7 (by simp) (by simp)).up (B':=B + 20) (by omega)
   have k57:Keep [] S4 S7:=(k5.trans k6).trans k7
   have k7':Keep [t,g] S S7:=(k3'.trans k4).trans (k57.mono (by simp))
   simp [e7]
   obtain rfl | rfl | rfl | rfl | rfl | rfl:lot = 0 ∨ lot = 1 ∨ lot = 2 ∨ lot = 3 ∨ lot = 4 ∨ lot = 5:=by omega
   ·simp; exact h (.num num) S7 trivial T7 k7'
   ·simp; exact h (.copy x0) S7 hx.1 T7 k7'
   ·simp; exact h (.add x0 x1) S7 ⟨hx.1,hx.2.1⟩ T7 k7'
   ·simp; exact h .read S7 trivial T7 k7'
   ·simp [atI,ixN]; exact h (.clean x0) S7 hx.1 T7 k7'
   ·simp [atI,ixN]; exact h .read S7 trivial T7 k7'
end K38
namespace K38
open PySem PySem.Spec PyProof.Rows L2 PL
theorem gen_wp {t g ow he le:Nat} {ns:List Str} {hs:List Hd}:∀ d:Nat,
  (∀ (δ : Nat) (B:Nat) (l:Int) (S:Sto) (P:PV→Sto→Prop) (R:Str→PV→Sto→Prop),1 ≤ δ→2 * δ ≤ d + 1→Tray t g B S→B + 30 * l.toNat < 10000000000000→Gen t g ow he le ns hs S→S[le]? = some (.lst [.int l])→0 < l →
   (∀ (r:Rw) S',r.ok ns hs→r.dep ≤ δ→(r.each.length:Int) ≤ l→Tray t g (B + 30 * r.each.length) S'→S'[le]? = some (.lst [.int (l - r.each.length)])→Keep [t,g,le] S S'→P r.pv S') →
   wp (m_q25 d [.loc t,.loc ow,.loc he,.loc le,.int δ] S) P R) ∧
  (∀ (δ : Nat) (B:Nat) (l:Int) (S:Sto) (P:PV→Sto→Prop) (R:Str→PV→Sto→Prop),1 ≤ δ→2 * δ ≤ d→Tray t g B S→B + 1 + 30 * l.toNat < 10000000000000→Gen t g ow he le ns hs S→S[le]? = some (.lst [.int l])→0 ≤ l →
   (∀ (rs:List Rw) S',Rw.oks ns hs rs→Rw.deps rs ≤ δ→((Rw.eachs rs).length:Int) ≤ l→Tray t g (B + 1 + 30 * (Rw.eachs rs).length) S'→S'[le]? = some (.lst [.int (l - (Rw.eachs rs).length)])→Keep [t,g,le] S S'→P (.tup (Rw.pvs rs)) S') →
   wp (m_q18 d [.loc t,.loc ow,.loc he,.loc le,.int δ] S) P R)
 | 0 => ⟨fun δ B l S P R h1 h2 => by omega,fun δ B l S P R h1 h2 => by omega⟩
 | d + 1 => by
  obtain ⟨ihr,ihs⟩:=gen_wp (t:=t) (g:=g) (ow:=ow) (he:=he) (le:=le) (ns:=ns) (hs:=hs) d
  constructor
  ·intro δ B l S P R h1 h2 T hB G el hl h
   unfold m_q25
   rw [callS_wp]
   simp [startE,el,set_get el,-zq0,-zq1,-zq2]
   have T0:Tray t g B (S.set le (.lst [.int (l - 1)])):=T.keep (M:=[le]) (.set (by simp)) (by simp [Ne.symm G.lt]) (by simp [Ne.symm G.lg])
   have G0:=G.keep (M:=[le]) (S':=S.set le (.lst [.int (l - 1)])) (.set (by simp)) (by simp [G.ol]) (by simp [G.hl])
   have el0:(S.set le (.lst [.int (l - 1)]))[le]? = some (.lst [.int (l - 1)]):=set_get el
   have k0:Keep [t,g,le] S (S.set le (.lst [.int (l - 1)])):=.set (by simp)
   generalize S.set le (.lst [.int (l - 1)]) = S0 at *
   refine draw_wp T0 (by omega) (by decide) (by decide) ?_
   intro lot S1 l0 l1 T1 k1
   have G1:=G0.keep k1 (by simp [G.ot,G.og]) (by simp [G.ht,G.hg])
   have el1:=k1.get el0 (by simp [G.lt,G.lg])
   simp [G1.o,-zq0,-zq1,-zq2]
   refine pick T1 (by omega) G1.o G.n0 G.n1 G.ot G.og ?_
   intro i x S2 hx T2 k2 e2 at2
   have G2:=G1.keep k2 (by simp [G.ot,G.og]) (by simp [G.ht,G.hg])
   have el2:=k2.get el1 (by simp [G.lt,G.lg])
   have k02:Keep [t,g,le] S S2:=k0.trans ((k1.trans k2).mono fun x hx _ => by simp at hx ⊢; omega)
   simp [e2,at2,-zq0,-zq1,-zq2]
   have hset:∀ (v:Vl) S3,v.ok ns hs→Tray t g (B + 1 + 1 + 20) S3→Keep [t,g] S2 S3→P (.tup [.str "set",.str x,v.pv]) S3:=by
    intro v S3 hv T3 k3
    refine h (.set x v) S3 ⟨hx,hv⟩ (by simp [Rw.dep] <;> omega) (by simp [Rw.each] <;> omega) (T3.up (by simp [Rw.each] <;> omega)) ?_ (k02.trans (k3.mono fun x hx _ => by simp at hx ⊢; omega))
    have:=k3.get el2 (by simp [G.lt,G.lg])
    simpa [Rw.each] using this
   have hse:∀ S3,Keep [] S2 S3→P (.tup [.str "send",.str x]) S3∧P (.tup [.str "give",.str x]) S3:=by
    intro S3 k3
    have T3:=T2.keep k3 (by simp) (by simp)
    have el3:=k3.get el2 (by simp)
    have k03:=k02.trans (k3.mono (M':=[t,g,le]) (by simp))
    constructor
    ·exact h (.send x) S3 hx (by simp [Rw.dep] <;> omega) (by simp [Rw.each] <;> omega) (T3.up (by simp [Rw.each] <;> omega)) (by simpa [Rw.each] using el3) k03
    ·exact h (.give x) S3 hx (by simp [Rw.dep] <;> omega) (by simp [Rw.each] <;> omega) (T3.up (by simp [Rw.each] <;> omega)) (by simpa [Rw.each] using el3) k03
   refine ⟨fun h6 => ⟨fun hd1 => ?_,fun _ => ⟨fun h5 => ?_,fun h5 => ?_⟩⟩,fun h6 => ⟨fun h5 => ?_,fun h5 => ?_⟩⟩
   ·have hδ : ((δ : Int) - 1) = ((δ - 1:Nat):Int):=by omega
    rw [hδ]
    refine ihs (δ - 1) (B + 1 + 1) (l - 1) S2 _ _ (by omega) (by omega) T2 (by omega) G2 el2 (by omega) ?_
    intro rs1 S3 hr1 hd1' hc1 T3 el3 k3
    have G3:=G2.keep k3 (by simp [G.ot,G.og,G.ol]) (by simp [G.ht,G.hg,G.hl])
    simp [-zq0,-zq1,-zq2]
    rw [hδ]
    refine ihs (δ - 1) _ _ S3 _ _ (by omega) (by omega) T3 (by omega) G3 el3 (by omega) ?_
    intro rs2 S4 hr2 hd2 hc2 T4 el4 k4
    simp [-zq0,-zq1,-zq2]
    refine h (.iff x rs1 rs2) S4 ⟨hx,hr1,hr2⟩ (by simp [Rw.dep] <;> omega) (by simp [Rw.each] <;> omega) (T4.up (by simp [Rw.each] <;> omega)) ?_ ((k02.trans k3).trans k4)
    rw [el4]
    simp [Rw.each]
    omega
   ·exfalso; omega
   ·obtain rfl | rfl:lot = 7 ∨ lot = 8:=by omega
    all_goals
     refine lst_wp (by simp) ?_
     intro n S3 e3 k3 _
     simp [e3]
     first | exact (hse S3 k3).1 | exact (hse S3 k3).2
   ·refine value_wp T2 (by omega) G2 ?_
    intro v S3 hv T3 k3
    simp
    exact hset v S3 hv T3 k3
   ·obtain rfl | rfl:lot = 5 ∨ lot = 6:=by omega
    all_goals
     refine lst_wp (by simp) ?_
     intro n S3 e3 k3 _
     simp [e3]
     first | exact (hse S3 k3).1 | exact (hse S3 k3).2
  ·intro δ B l S P R h1 h2 T hB G el hl h
   unfold m_q18
   rw [callS_wp]
   simp [startE,-zq0,-zq1,-zq2]
   refine lst_wp (by simp) ?_
   intro n S1 e1 k1 hn
   have T1:=T.keep k1 (by simp) (by simp)
   have G1:=G.keep k1 (by simp) (by simp)
   have el1:=k1.get el (by simp)
   have ltT:=T.lt
   have ltl:=lt_of_get el
   have lto:=lt_of_get G.o
   have lth:=lt_of_get G.h
   simp [-zq0,-zq1,-zq2]
   refine draw_wp T1 (by omega) (by decide) (by decide) ?_
   intro m S2 m0 m1 T2 k2
   have G2:=G1.keep k2 (by simp [G.ot,G.og]) (by simp [G.ht,G.hg])
   have el2:=k2.get el1 (by simp [G.lt,G.lg])
   have e2:=k2.get e1 (by simp; omega)
   simp [-zq0,-zq1,-zq2]
   refine ⟨by unfold rngOk; omega,?_⟩
   refine for_wp (fun dn rs τ S' => ∃ (ws:List Rw) (x:Option PV),τ = [some (.loc t),some (.loc ow),some (.loc he),some (.loc le),some (.int δ),some (.loc n),x]∧S'[n]? = some (.lst (Rw.pvs ws))∧ws.length ≤ dn.length∧Rw.oks ns hs ws∧Rw.deps ws ≤ δ∧((Rw.eachs ws).length:Int) ≤ l∧Tray t g (B + 1 + 30 * (Rw.eachs ws).length) S'∧S'[le]? = some (.lst [.int (l - (Rw.eachs ws).length)])∧Keep [t,g,le,n] S1 S')
    ⟨[],none,rfl,e2,by simp,trivial,by simp [Rw.deps],by simpa [Rw.eachs] using hl,by simpa [Rw.eachs] using T2,by simpa [Rw.eachs] using el2,k2.mono fun x hx _ => by simp at hx ⊢; omega⟩ ?_ ?_
   ·rintro dn p rs τ S3 J eq ⟨ws,x,rfl,e3,hl3,ok3,dep3,len3,T3,el3,k3⟩ hJ
    have hd:dn.length < 5:=by
     have:=congrArg List.length eq
     simp [rngI] at this; omega
    simp [el3,-zq0,-zq1,-zq2]
    constructor
    ·intro hpos
     have G3:=G1.keep k3 (by simp [G.ot,G.og,G.ol]; omega) (by simp [G.ht,G.hg,G.hl]; omega)
     simp [e3,-zq0,-zq1,-zq2]
     refine ihr δ (B + 1 + 30 * (Rw.eachs ws).length) (l - (Rw.eachs ws).length) S3 _ _ h1 (by omega) T3 (by omega) G3 el3 (by omega) ?_
     intro r S4 rok rdep rlen T4 el4 k4
     have e4:=k4.get e3 (by simp; omega)
     have hlen:(Rw.pvs ws).length = ws.length:=by rw [pvs_map]; simp
     simp [e4,hlen]
     have ee:Rw.eachs (ws ++ [r]) = Rw.eachs ws ++ r.each:=by rw [eachs_app]; simp [Rw.eachs]
     refine ⟨by omega,hJ _ _ ⟨ws ++ [r],_,rfl,?_,by simp; omega,oks_app.mpr ⟨ok3,rok,trivial⟩,?_,?_,?_,?_,?_⟩⟩
     ·rw [set_get e4]; simp [pvs_map]
     ·rw [deps_app]; simp [Rw.deps]; omega
     ·rw [ee]; simp; omega
     ·have:Tray t g (B + 1 + 30 * (Rw.eachs (ws ++ [r])).length) S4:=T4.up (by rw [ee]; simp; omega)
      exact this.keep (M:=[n]) (.set (by simp)) (by simp; omega) (by simp; omega)
     ·rw [List.getElem?_set_ne (by omega),el4,ee]
      simp; omega
     ·exact (k3.trans (k4.mono fun x hx _ => by simp at hx ⊢; omega)).trans (.set (by simp))
    ·intro hneg
     exact hJ _ _ ⟨ws,_,rfl,e3,by simp; omega,ok3,dep3,len3,T3,el3,k3⟩
   ·rintro τ S3 ⟨ws,x,rfl,e3,hl3,ok3,dep3,len3,T3,el3,k3⟩
    simp [e3]
    exact h ws S3 ok3 dep3 len3 T3 el3 (((k1.mono (by simp)).trans k3).mono fun x hx hlt => by simp at hx ⊢; omega)
end K38
namespace K38
open PySem PySem.Spec PyProof.Rows L2 PL
theorem mem_ins {α : Type} {xs:List α} {x y : α} {i:Nat}:y ∈ xs.take i ++ [x] ++ xs.drop i↔y = x ∨ y ∈ xs:=by
 have:=List.take_append_drop i xs
 constructor
 ·intro h
  simp only [List.mem_append,List.mem_singleton] at h
  rcases h with (h | h) | h
  ·exact .inr (List.mem_of_mem_take h)
  ·exact .inl h
  ·exact .inr (List.mem_of_mem_drop h)
 ·intro h
  simp only [List.mem_append,List.mem_singleton]
  rcases h with h | h
  ·exact .inl (.inr h)
  ·rw [← this] at h
   rcases List.mem_append.mp h with q | q
   ·exact .inl (.inl q)
   ·exact .inr q
theorem nodup_ins {α : Type} {xs:List α} {x : α} {i:Nat} (nd:xs.Nodup) (hx:x ∉ xs):(xs.take i ++ [x] ++ xs.drop i).Nodup:=by
 have p:(xs.take i ++ [x] ++ xs.drop i).Perm (x :: xs):=by
  have h1:(xs.take i ++ [x] ++ xs.drop i).Perm (x :: (xs.take i ++ xs.drop i)):=by
   rw [List.append_assoc]
   exact List.perm_middle
  rwa [List.take_append_drop] at h1
 exact p.nodup_iff.mpr (List.nodup_cons.mpr ⟨hx,nd⟩)
theorem nm_main:Nm (Str.ofString "main"):=⟨by unfold Lw; decide +kernel,by decide +kernel,by decide +kernel⟩
theorem program3_wp {t g B:Nat} {S:Sto} {wide:Int} (T:Tray t g B S) (hB:B < 100000000000) (hw0:0 ≤ wide) (hw1:wide ≤ 1) {P:PV→Sto→Prop} {R:Str→PV→Sto→Prop}
  (h:∀ (n:Nat) (ds:List Df) S',S'[n]? = some (.lst (ds.map Df.pv))→S.length ≤ n→Prg ds→(∀ d ∈ ds,(Rw.eachs d.2.2).length ≤ 30)→0 < ds.length→Tray t g (B + 100000) S'→Keep [t,g] S S'→P (.loc n) S'):wp (m_q3 [.loc t,.int wide] S) P R:=by
 unfold m_q3
 rw [callS_wp]
 simp [startE,-zq0,-zq1,-zq2]
 refine lst_wp (by simp) ?_
 intro hl S1 e1 k1 hhl
 have T1:=T.keep k1 (by simp) (by simp)
 have ltT:=T.lt
 simp [-zq0,-zq1,-zq2]
 refine lst_wp (by simp) ?_
 intro n2 S2 e2 k2 _
 have T2:=T1.keep k2 (by simp) (by simp)
 obtain ⟨m,hm,hm0,hm6⟩:∃ m:Int,atI [PV.int 3,PV.int 6] wide = some (.int m)∧1 ≤ m∧m ≤ 6:=by
  obtain rfl | rfl:wide = 0 ∨ wide = 1:=by omega
  ·exact ⟨3,by simp,by decide,by decide⟩
  ·exact ⟨6,by simp,by decide,by decide⟩
 simp [e2,hm,-zq0,-zq1,-zq2]
 refine draw_wp T2 (by omega) (by omega) (by omega) ?_
 intro many S3 a0 a1 T3 k3
 simp [-zq0,-zq1,-zq2]
 refine lst_wp (by simp) ?_
 intro n4 S4 e4 k4 h4
 have T4:=T3.keep k4 (by simp) (by simp)
 have ltT3:=T3.lt
 simp [-zq0,-zq1,-zq2]
 refine names_wp T4 (by omega) e4 (by omega) (by omega) a0 (by omega) ?_
 intro nn xs S5 e5 hnn hxl xnd xN xb T5 k5
 have e1':S5[hl]? = some (.lst (List.map Hd.pv [(Str.ofString "main",[])])):=by
  have:=k5.get (k4.get (k3.get (k2.get e1 (by simp)) (by simp; omega)) (by simp)) (by simp; omega)
  simpa [Hd.pv,stL] using this
 have k15:Keep [t,g] S1 S5:=(((k2.mono (by simp)).trans k3).trans (k4.mono (by simp))).trans k5
 simp [e5,-zq0,-zq1,-zq2]
 have hhl1:=lt_of_get e1
 have hnn2:=k15.1
 have hnnlt:=lt_of_get e5
 have hS4:=k4.1
 have hS3:=k3.1
 have hS2:=k2.1
 have hlnn:hl ≠ nn:=by omega
 refine for_wp (fun dn rs τ S' => ∃ (hs:List Hd) (dnN:List Str) (x3 x6:Option PV),dn = dnN.map PV.str∧τ = [some (.loc t),some (.int wide),some (.loc hl),x3,none,none,x6,none,none,none]∧S'[hl]? = some (.lst (hs.map Hd.pv))∧S'[nn]? = some (.lst (xs.map PV.str))∧hs.length = 1 + dn.length ∧
   (hs.map (·.1)).Nodup∧(∀ h ∈ hs,Nm h.1)∧(∀ h ∈ hs,h.2.Nodup)∧(∀ h ∈ hs,∀ x ∈ h.2,Nm x)∧(∀ h ∈ hs,h.2.length ≤ 4)∧((Str.ofString "main",[]):Hd) ∈ hs∧(∀ h ∈ hs,h.1 = Str.ofString "main" ∨ h.1 ∈ dnN)∧Tray t g (B + 100 + 100 * dn.length) S'∧Keep [t,g,hl] S1 S')
  ⟨[(Str.ofString "main",[])],[],none,none,rfl,rfl,e1',e5,rfl,by simp,by simp [nm_main],by simp,by simp,by simp,by simp,by simp,T5.up (by simp),k15.mono fun x hx _ => by simp at hx ⊢; omega⟩ ?_ ?_
 ·rintro dn p rs τ S6 J eq ⟨hs,dnN,x3,x6,rfl,rfl,e6,e6n,hl6,nd6,nm6,pd6,pn6,pl6,mn6,in6,T6,k6⟩ hJ
  obtain ⟨dnA,y,rsA,hxs,hdn,rfl,rfl⟩:=split3 eq
  have:=strs_inj hdn
  subst this
  have hd:dnN.length < 6:=by
   have:=congrArg List.length hxs
   simp at this; omega
  have hyx:y ∈ xs:=by rw [hxs]; simp
  have hyn:y ∉ dnN:=by
   intro z
   rw [hxs] at xnd
   exact (List.nodup_append.mp xnd).2.2 y z y (by simp) rfl
  have hym:y ≠ Str.ofString "main" := fun z => xb y hyx (by rw [z]; simp [bars])
  refine ⟨by simpa using e6n,_,rfl,?_⟩
  simp [-zq0,-zq1,-zq2]
  have ltT6:=T6.lt
  have lt6:=lt_of_get e6
  have lt6n:=lt_of_get e6n
  simp at T6 hl6
  refine lst_wp (by simp) ?_
  intro n7 S7 e7 k7 _
  have T7:=T6.keep k7 (by simp) (by simp)
  obtain ⟨m,hm,hm0,hm6⟩:∃ m:Int,atI [PV.int 4,PV.int 5] wide = some (.int m)∧1 ≤ m∧m ≤ 5:=by
   obtain rfl | rfl:wide = 0 ∨ wide = 1:=by omega
   ·exact ⟨4,by simp,by decide,by decide⟩
   ·exact ⟨5,by simp,by decide,by decide⟩
  simp [e7,hm,-zq0,-zq1,-zq2]
  refine draw_wp T7 (by omega) (by omega) (by omega) ?_
  intro many2 S8 b0 b1 T8 k8
  have ltT8:=T8.lt
  simp [-zq0,-zq1,-zq2]
  refine lst_wp (by simp) ?_
  intro n9 S9 e9 k9 _
  have T9:=T8.keep k9 (by simp) (by simp)
  simp [-zq0,-zq1,-zq2]
  refine names_wp T9 (by omega) e9 (by omega) (by omega) b0 (by omega) ?_
  intro np ps S10 e10 _ hpl pnd pN pb T10 k10
  have k610:Keep [t,g] S6 S10:=(((k7.mono (by simp)).trans k8).trans (k9.mono (by simp))).trans k10
  have e6a:=k610.get e6 (by simp; omega)
  have e6b:=k610.get e6n (by simp; omega)
  simp [e10,e6a,hl6,-zq0,-zq1,-zq2]
  refine draw_wp T10 (by omega) (by omega) (by omega) ?_
  intro i S11 i0 i1 T11 k11
  have e6c:=k11.get e6a (by simp; omega)
  have e6d:=k11.get e6b (by simp; omega)
  simp [e6c,hl6]
  refine ⟨⟨by omega,i0,by omega⟩,?_⟩
  have ei:(List.map Hd.pv hs).take i.toNat ++ PV.tup [PV.str y,PV.tup (ps.map PV.str)] :: (List.map Hd.pv hs).drop i.toNat = (hs.take i.toNat ++ [(y,ps)] ++ hs.drop i.toNat).map Hd.pv:=by
   simp [List.map_take,List.map_drop,Hd.pv,stL]
  have ei2:(hs.take i.toNat ++ [(y,ps)] ++ hs.drop i.toNat).map (·.1) = (hs.map (·.1)).take i.toNat ++ [y] ++ (hs.map (·.1)).drop i.toNat:=by
   simp [List.map_take,List.map_drop]
  have lens:(hs.take i.toNat ++ [(y,ps)] ++ hs.drop i.toNat).length = 1 + (dnN.length + 1):=by
   have:=congrArg List.length (List.take_append_drop i.toNat hs)
   simp only [List.length_append,List.length_cons,List.length_nil] at this ⊢
   omega
  refine hJ _ _ ⟨hs.take i.toNat ++ [(y,ps)] ++ hs.drop i.toNat,dnN ++ [y],_,_,by simp,rfl,?_,?_,?_,?_,?_,?_,?_,?_,?_,?_,?_,?_⟩
  ·rw [set_get e6c]
   simpa using ei
  ·rw [List.getElem?_set_ne (by omega)]; exact e6d
  ·rw [lens]; simp
  ·rw [ei2]
   refine nodup_ins nd6 fun z => ?_
   obtain ⟨q,hq,rfl⟩:=List.mem_map.mp z
   rcases in6 q hq with w | w
   ·exact hym w
   ·exact hyn w
  ·intro q hq; rcases mem_ins.mp hq with rfl | hq
   ·exact xN y hyx
   ·exact nm6 q hq
  ·intro q hq; rcases mem_ins.mp hq with rfl | hq
   ·exact pnd
   ·exact pd6 q hq
  ·intro q hq; rcases mem_ins.mp hq with rfl | hq
   ·exact pN
   ·exact pn6 q hq
  ·intro q hq; rcases mem_ins.mp hq with rfl | hq
   ·show ps.length ≤ 4; omega
   ·exact pl6 q hq
  ·exact mem_ins.mpr (.inr mn6)
  ·intro q hq; rcases mem_ins.mp hq with rfl | hq
   ·exact .inr (by simp)
   ·rcases in6 q hq with w | w
    ·exact .inl w
    ·exact .inr (by simp [w])
  ·refine (T11.up (B':=B + 100 + 100 * (dnN.map PV.str ++ [PV.str y]).length) (by simp; omega)).keep (M:=[hl]) (.set (by simp)) (by simp; omega) (by simp; omega)
  ·exact ((k6.trans ((k610.trans k11).mono fun x hx _ => by simp at hx ⊢; omega))).trans (.set (by simp))
 ·rintro τ S6 ⟨hs,dnN,x3,x6,hdn,rfl,e6,e6n,hl6,nd6,nm6,pd6,pn6,pl6,mn6,in6,T6,k6⟩
  refine ⟨by simpa using e6n,?_⟩
  have hdn:=strs_inj hdn
  subst hdn
  simp at T6 hl6
  have T6:=T6.up (B':=B + 1000) (by omega)
  have hxs6:xs.length ≤ 5:=by omega
  have HS:Hds hs:=⟨nd6,nm6,pd6,pn6,pl6,mn6,by omega⟩
  simp [-zq0,-zq1,-zq2]
  have ltT6:=T6.lt
  have lt6:=lt_of_get e6
  refine draw_wp T6 (by omega) (by omega) (by omega) ?_
  intro few S7 f0 f1 T7 k7
  have ltT7:=T7.lt
  simp [-zq0,-zq1,-zq2]
  refine lst_wp (by simp) ?_
  intro n8 S8 e8 k8 _
  have T8:=T7.keep k8 (by simp) (by simp)
  simp [-zq0,-zq1,-zq2]
  refine names_wp T8 (by omega) e8 (by omega) (by omega) (by omega) (by omega) ?_
  intro nf fs S9 e9 hnf hfl fnd fN fb T9 k9
  have k69:Keep [t,g] S6 S9:=(k7.trans (k8.mono (by simp))).trans k9
  have hS8:=k8.1
  have hS7:=k7.1
  have lt9:=lt_of_get e9
  simp [-zq0,-zq1,-zq2]
  refine lst_wp (by simp) ?_
  intro no S10 e10 k10 hno
  have T10:=T9.keep k10 (by simp) (by simp)
  have ltT9:=T9.lt
  have e9a:=k10.get e9 (by simp)
  have e6a:=k10.get (k69.get e6 (by simp; omega)) (by simp)
  have lt6a:=lt_of_get (k69.get e6 (by simp; omega))
  simp [e6a,-zq0,-zq1,-zq2]
  obtain ⟨B1,hB1,T10⟩:∃ B1,B1 ≤ B + 2000∧Tray t g B1 S10:=⟨_,by omega,T10⟩
  refine for_wp (fun dn rs τ S' => ∃ (hd:List Hd) (ds:List Df) (x3 x6 x7 x8 x9:Option PV),dn = hd.map Hd.pv∧hd = ds.map Df.hd∧τ = [some (.loc t),some (.int wide),some (.loc hl),x3,some (.loc nf),some (.loc no),x6,x7,x8,x9]∧S'[no]? = some (.lst (ds.map Df.pv))∧(∀ h ∈ ds,h.hd ∈ hs) ∧
    (∀ d ∈ ds,∃ ns:List Str,(∀ x ∈ ns,Nm x)∧Rw.oks ns hs d.2.2)∧(∀ d ∈ ds,Rw.deps d.2.2 ≤ 4)∧(∀ d ∈ ds,(Rw.eachs d.2.2).length ≤ 30)∧Tray t g (B1 + 2000 * dn.length) S'∧Keep [t,g,no] S10 S')
   ⟨[],[],_,_,none,none,none,rfl,rfl,rfl,e10,by simp,by simp,by simp,by simp,by simpa using T10,.refl⟩ ?_ ?_
  ·rintro dn p rs τ S11 J eq ⟨hd,ds,y3,y6,y7,y8,y9,rfl,rfl,rfl,e11,in11,ok11,dep11,cnt11,T11,k11⟩ hJ
   obtain ⟨dA,q,rsA,hhs,hdn,rfl,rfl⟩:=split3 eq
   have hd:ds.length < 6:=by
    have:=congrArg List.length hhs
    have h2:=congrArg List.length hdn
    simp at this h2; omega
   have hq:q ∈ hs:=by rw [hhs]; simp
   refine ⟨by simpa using k11.get e6a (by simp; omega),[some (.loc t),some (.int wide),some (.loc hl),some (.str q.1),some (.loc nf),some (.loc no),some (.tup (stL q.2)),y7,y8,y9],by simp [Hd.pv],?_⟩
   have e9b:=k11.get e9a (by simp; omega)
   have e6b:=k11.get e6a (by simp; omega)
   have lt11:=lt_of_get e11
   have ltT11:=T11.lt
   simp [-zq0,-zq1,-zq2,-zq3]
   refine list_wp (xs:=stL q.2) (by simp) ?_
   intro n12 S12 e12 k12 _
   simp [-zq0,-zq1,-zq2,-zq3]
   refine addL_wp (k12.get e9b (by simp)) e12 (by have:=pl6 q hq; simp [stL]; omega) ?_
   intro ow S13 e13 k13 how
   simp [-zq0,-zq1,-zq2,-zq3]
   refine lst_wp (by simp) ?_
   intro n14 S14 e14 k14 _
   obtain ⟨le0,hle0,hle1,hle2⟩:∃ m:Int,atI [PV.int 10,PV.int 30] wide = some (.int m)∧1 ≤ m∧m ≤ 30:=by
    obtain rfl | rfl:wide = 0 ∨ wide = 1:=by omega
    ·exact ⟨10,by simp,by decide,by decide⟩
    ·exact ⟨30,by simp,by decide,by decide⟩
   simp [e14,hle0,-zq0,-zq1,-zq2,-zq3]
   refine lst_wp (by simp) ?_
   intro le S15 e15 k15 hle
   have hS12:=k12.1
   have hS13:=k13.1
   have hS14:=k14.1
   have lt13:=lt_of_get e13
   have k1115:Keep [] S11 S15:=((k12.trans k13).trans k14).trans k15
   have T15:=T11.keep k1115 (by simp) (by simp)
   have G15:Gen t g ow hl le (fs ++ q.2) hs S15:=by
    refine ⟨?_,k1115.get e6b (by simp),by omega,by omega,by omega,by omega,by omega,by omega,by omega,by omega,by simp; omega,by have:=pl6 q hq; simp; omega,by omega,by omega,pl6⟩
    have:=k15.get (k14.get e13 (by simp)) (by simp)
    simpa [stL] using this
   simp [-zq0,-zq1,-zq2,-zq3]
   refine (gen_wp 8).2 4 _ le0 S15 _ _ (by omega) (by omega) T15 (by simp; omega) G15 e15 (by omega) ?_
   intro rs1 S16 ok1 dep1 len1 T16 el16 k16
   have G16:=G15.keep k16 (by simp [G15.ot,G15.og,G15.ol]) (by simp [G15.ht,G15.hg,G15.hl])
   simp [-zq0,-zq1,-zq2,-zq3]
   refine (gen_wp 8).2 4 _ _ S16 _ _ (by omega) (by omega) T16 (by simp; omega) G16 el16 (by omega) ?_
   intro rs2 S17 ok2 dep2 len2 T17 el17 k17
   have e17:S17[no]? = some (.lst (ds.map Df.pv)):=k17.get (k16.get (k1115.get e11 (by simp)) (by simp; omega)) (by simp; omega)
   have pl1:(Rw.pvs rs1).length = rs1.length:=by rw [pvs_map]; simp
   have pl2:(Rw.pvs rs2).length = rs2.length:=by rw [pvs_map]; simp
   have l1:=len_eachs rs1
   have l2:=len_eachs rs2
   simp [e17,pl1,pl2,-zq0,-zq1,-zq2,-zq3]
   refine ⟨by omega,by omega,?_⟩
   refine hJ _ _ ⟨ds.map Df.hd ++ [q],ds ++ [(q.1,q.2,rs1 ++ rs2)],_,_,_,_,_,by simp,by simp [Df.hd],rfl,?_,?_,?_,?_,?_,?_,?_⟩
   ·rw [set_get e17]
    simp [Df.pv,pvs_map]
   ·intro d hd
    rcases List.mem_append.mp hd with w | w
    ·exact in11 d w
    ·simp at w; subst w; exact hq
   ·intro d hd
    rcases List.mem_append.mp hd with w | w
    ·exact ok11 d w
    ·simp at w; subst w
     refine ⟨fs ++ q.2,fun x hx => ?_,oks_app.mpr ⟨ok1,ok2⟩⟩
     rcases List.mem_append.mp hx with v | v
     ·exact fN x v
     ·exact pn6 q hq x v
   ·intro d hd
    rcases List.mem_append.mp hd with w | w
    ·exact dep11 d w
    ·simp at w; subst w
     show Rw.deps (rs1 ++ rs2) ≤ 4
     rw [deps_app]; omega
   ·intro d hd
    rcases List.mem_append.mp hd with w | w
    ·exact cnt11 d w
    ·simp at w; subst w
     show (Rw.eachs (rs1 ++ rs2)).length ≤ 30
     rw [eachs_app,List.length_append]; omega
   ·have TT:Tray t g (B1 + 2000 * (ds.length + 1)) S17:=T17.up (by simp; omega)
    simpa using TT.keep (M:=[no]) (.set (by simp)) (by simp; omega) (by simp; omega)
   ·have kk:Keep [t,g,no] S11 S17:=(((k1115.mono (M':=[t,g,le]) (by simp)).trans k16).trans k17).mono fun x hx hlt => by simp at hx ⊢; omega
    exact (k11.trans kk).trans (.set (by simp))
  ·rintro τ S11 ⟨hd,ds,y3,y6,y7,y8,y9,hdn,rfl,rfl,e11,in11,ok11,dep11,cnt11,T11,k11⟩
   have hhs:=hds_inj hdn
   refine ⟨by simpa using k11.get e6a (by simp; omega),?_⟩
   simp
   have hlen:ds.length = hs.length:=by rw [hhs]; simp
   refine h no ds S11 e11 (by omega) ⟨by rw [← hhs]; exact HS,fun d hd => by rw [← hhs]; exact ok11 d hd,dep11,fun d hd => by have:=cnt11 d hd; omega⟩ cnt11 (by omega) (T11.up (by simp; omega)) ?_
   exact (((k1.mono (M':=[t,g,hl,no]) (by simp)).trans (((k6.mono fun x hx _ => by simp at hx ⊢; omega).trans (k69.mono fun x hx _ => by simp at hx ⊢; omega)).trans ((k10.mono (by simp)).trans (k11.mono fun x hx _ => by simp at hx ⊢; omega)))).mono fun x hx hlt => by simp at hx ⊢; omega)
end K38
namespace K38
open PySem PySem.Spec PyProof.Rows L2 PL
theorem each_row_wp:∀ (d:Nat) (rs:List Rw) (S:Sto) (P:PV→Sto→Prop) (R:Str→PV→Sto→Prop),Rw.deps rs < d→(Rw.eachs rs).length ≤ 1000 →
  (∀ n S',S'[n]? = some (.lst (Rw.pvs (Rw.eachs rs)))→Keep [] S S'→S.length ≤ n→P (.loc n) S')→wp (m_q26 d [.tup (Rw.pvs rs)] S) P R
 | 0,_,_,_,_,h,_,_ => by omega
 | d + 1,rs,S,P,R,hd,hl,h => by
  unfold m_q26
  rw [callS_wp]
  simp [startE,-zq0,-zq1,-zq2,-zq3]
  refine lst_wp (by simp) ?_
  intro n S1 e1 k1 hn
  simp [-zq0,-zq1,-zq2,-zq3]
  rw [pvs_map]
  refine forM_wp Rw.pv (fun ds τ S' => ∃ (x:Option PV),τ = [some (.tup (rs.map Rw.pv)),some (.loc n),x]∧S'[n]? = some (.lst (Rw.pvs (Rw.eachs ds)))∧Keep [n] S1 S')
   ⟨none,rfl,e1,.refl⟩ ?_ ?_
  ·rintro ds r rs' τ S2 J hrs ⟨x,rfl,e2,k2⟩ hJ
   have lt2:=lt_of_get e2
   have hlen:(Rw.pvs (Rw.eachs ds)).length = (Rw.eachs ds).length:=by rw [pvs_map]; simp
   have hle:(Rw.eachs ds).length + r.each.length ≤ 1000:=by
    rw [hrs,eachs_app] at hl
    simp [Rw.eachs] at hl
    omega
   have hrp:=Rw.each_pos r
   have hdp:r.dep < d + 1:=by
    rw [hrs,deps_app] at hd
    simp [Rw.deps] at hd
    omega
   have ea:∀ o,Rw.eachs (ds ++ [o]) = Rw.eachs ds ++ o.each:=by intro o; rw [eachs_app]; simp [Rw.eachs]
   refine ⟨by simp,_,rfl,?_⟩
   simp [e2,hlen,-zq0,-zq1,-zq2,-zq3]
   refine ⟨by omega,?_⟩
   have e3:(S2.set n (.lst (Rw.pvs (Rw.eachs ds) ++ [r.pv])))[n]? = some (.lst (Rw.pvs (Rw.eachs ds) ++ [r.pv])):=set_get e2
   have k3:Keep [n] S2 (S2.set n (.lst (Rw.pvs (Rw.eachs ds) ++ [r.pv]))):=.set (by simp)
   generalize S2.set n (.lst (Rw.pvs (Rw.eachs ds) ++ [r.pv])) = S3 at *
   have fin:r.each = [r]→J [some (.tup (rs.map Rw.pv)),some (.loc n),some r.pv] S3:=fun hr =>
    hJ _ _ ⟨_,rfl,by rw [e3,ea,hr]; simp [pvs_map],k2.trans k3⟩
   cases r with
   | set x v => simp [Rw.pv] at fin ⊢; exact fin rfl
   | send x => simp [Rw.pv] at fin ⊢; exact fin rfl
   | give x => simp [Rw.pv] at fin ⊢; exact fin rfl
   | iff x a b =>
    have lt3:=lt_of_get e3
    simp [Rw.each] at hle
    simp [Rw.dep] at hdp
    simp [Rw.pv,e3,-zq0,-zq1,-zq2,-zq3]
    refine each_row_wp d a S3 _ _ (by omega) (by omega) ?_
    intro n4 S4 e4 k4 h4
    simp [-zq0,-zq1,-zq2,-zq3]
    refine each_row_wp d b S4 _ _ (by omega) (by omega) ?_
    intro n5 S5 e5 k5 h5
    simp [-zq0,-zq1,-zq2,-zq3]
    refine addL_wp (k5.get e4 (by simp)) e5 (by simp [pvs_map]; omega) ?_
    intro n6 S6 e6 k6 h6
    have e36:S6[n]? = _:=k6.get (k5.get (k4.get e3 (by simp)) (by simp)) (by simp)
    simp [e36,e6]
    refine ⟨by simp [pvs_map] at *; omega,hJ _ _ ⟨_,rfl,?_,?_⟩⟩
    ·rw [set_get e36,ea]
     simp [Rw.each,pvs_map,Rw.pv]
    ·exact ((k2.trans k3).trans ((((k4.trans k5).trans k6).mono (by simp)))).trans (.set (by simp))
  ·rintro τ S2 ⟨x,rfl,e2,k2⟩
   simp
   exact h n S2 e2 ((k1.mono (M':=[n]) (by simp)).trans k2 |>.mono fun x hx hlt => by simp at hx; omega) hn
end K38
namespace K38
open PySem PySem.Spec PyProof.Rows L2 PL
theorem names_asked_wp {r:Rw} {S:Sto} {P:PV→Sto→Prop} {R:Str→PV→Sto→Prop} (h:∀ n S',(∃ ys,S'[n]? = some (.lst ys)∧ys ++ [match r with | .set x _ => .str x | .iff x _ _ => .str x | .send x => .str x | .give x => .str x] = stL r.ins)→Keep [] S S'→S.length ≤ n→P (.loc n) S'):wp (m_q6 [r.pv] S) P R:=by
 unfold m_q6
 rw [callS_wp]
 cases r with
 | send x =>
  simp [startE,Rw.pv,-zq2,-zq3,-slP_tup]
  refine lst_wp (by simp) ?_
  intro n S1 e1 k1 h1
  simp
  exact h n S1 ⟨_,e1,rfl⟩ k1 h1
 | give x =>
  simp [startE,Rw.pv,-zq2,-zq3,-slP_tup]
  refine lst_wp (by simp) ?_
  intro n S1 e1 k1 h1
  simp
  exact h n S1 ⟨_,e1,rfl⟩ k1 h1
 | iff x a b =>
  simp [startE,Rw.pv,-zq2,-zq3,-slP_tup]
  refine lst_wp (by simp) ?_
  intro n S1 e1 k1 h1
  simp
  exact h n S1 ⟨_,e1,rfl⟩ k1 h1
 | set x v =>
  cases v with
  | call f xs =>
   simp [startE,Rw.pv,Vl.pv,-zq2,-zq3]
   refine list_wp (xs:=stL xs) (by simp) ?_
   intro n S1 e1 k1 h1
   simp
   exact h n S1 ⟨_,e1,by simp [Rw.ins,Vl.asked,stL]⟩ k1 h1
  | num i =>
   simp [startE,Rw.pv,Vl.pv,-zq2,-zq3]
   refine lst_wp (by simp) ?_
   intro n S1 e1 k1 h1
   simp
   exact h n S1 ⟨_,e1,rfl⟩ k1 h1
  | _ =>
   simp [startE,Rw.pv,Vl.pv,-zq2,-zq3]
   refine list_wp (by simp; rfl) ?_
   intro n S1 e1 k1 h1
   simp
   exact h n S1 ⟨_,e1,rfl⟩ k1 h1
end K38
namespace K38
open PySem PySem.Spec PyProof.Rows L2 PL
theorem names_in_wp {r:Rw} {S:Sto} {P:PV→Sto→Prop} {R:Str→PV→Sto→Prop} (h:∀ n S',S'[n]? = some (.lst (stL r.ins))→Keep [] S S'→S.length ≤ n→P (.loc n) S') (hl:r.ins.length ≤ 1000):wp (m_q24 [r.pv] S) P R:=by
 unfold m_q24
 rw [callS_wp]
 simp [startE,-zq2,-zq1]
 refine names_asked_wp ?_
 rintro n S1 ⟨ys,e1,hy⟩ k1 h1
 have hlen:ys.length + 1 ≤ 1000:=by
  have:=congrArg List.length hy
  simp [stL] at this; omega
 cases r <;>
 ·simp [Rw.pv,-zq2,-zq1]
  refine lst_wp (by simp) ?_
  intro n2 S2 e2 k2 h2
  simp [-zq2,-zq1]
  refine addL_wp (k2.get e1 (by simp)) e2 (by simp; omega) ?_
  intro n3 S3 e3 k3 h3
  simp
  refine h n3 S3 (by rw [e3]; simpa using hy) ((k1.trans k2).trans k3) (by have:=k1.1; have:=k2.1; omega)
theorem call_of_wp {r:Rw} {S:Sto} {P:PV→Sto→Prop} {R:Str→PV→Sto→Prop} (h:P r.called S):wp (m_q28 [r.pv] S) P R:=by
 unfold m_q28
 rw [callS_wp]
 cases r with
 | set x v => cases v <;> (simp [startE,Rw.pv,Vl.pv,Rw.called] at h ⊢; exact h)
 | _ => simp [startE,Rw.pv,Rw.called] at h ⊢; exact h
end K38
namespace K38
open PySem PySem.Spec PyProof.Rows L2 PL
theorem is_nameB_wp {x:Str} {S:Sto} {P:PV→Sto→Prop} {R:Str→PV→Sto→Prop} (l16:x.length ≤ 16777216) (h:∀ S',Keep [] S S'→P (.bl (nmB x)) S'):wp (m_q29 [.str x] S) P R:=by
 unfold m_q29
 rw [callS_wp]
 simp [startE,l16,-zq0]
 have hno:¬ (1 ≤ x.length∧x.length ≤ 8)→nmB x = false:=by
  intro z
  unfold nmB
  simp only [Bool.and_eq_false_iff,decide_eq_false_iff_not]
  omega
 refine ⟨fun h1 => ⟨fun h2 => ?_,fun z => ?_⟩,fun z => ?_⟩
 ·refine accK_wp (fun c => PV.str ⟨#[c]⟩) (fun c => PV.bl (decide (Lt c))) (by simp) (by have:=ch_len x; unfold ch at this; simp only [List.length_nil]; omega) (fun c hc acc S' J hl k hJ => ⟨_,rfl,?_⟩) ?_
  ·simp [wipeE,stepE_wp,inB_char,hl]
   exact hJ _ k
  ·intro S' k
   refine new_wp ?_
   intro n S1 e1 k1 _
   simp [e1,boolsP_map]
   have:nmB x = x.cps.all fun c => decide (Lt c):=by
    unfold nmB
    simp [ch,show 1 ≤ x.length by omega,show x.length ≤ 8 by omega]
   rw [← this]
   exact h S1 (k.trans k1)
 ·have:=h S .refl
  rw [hno (by omega)] at this
  exact this
 ·have:=h S .refl
  rw [hno (by omega)] at this
  exact this
theorem is_sound_wp {d:Df} {hs:List Hd} {od:Nat} {S:Sto} {P:PV→Sto→Prop} {R:Str→PV→Sto→Prop} (ho:Oth od hs S) (hdep:Rw.deps d.2.2 < 6) (hcnt:(Rw.eachs d.2.2).length ≤ 1000) (hins:∀ r ∈ Rw.eachs d.2.2,r.ins.length ≤ 1000) (hpl:d.2.1.length ≤ 1000) (hnl:∀ x ∈ namesL d,x.length ≤ 1000)
  (h:∀ S',Keep [] S S'→P (.bl (soundB hs d)) S'):wp (m_q23 [d.pv,.loc od] S) P R:=by
 have hfl:((Rw.eachs d.2.2).flatMap Rw.ins).length ≤ 1000 * 1000:=by
  have:=len_flatMap_le hins
  omega
 unfold m_q23
 rw [callS_wp]
 simp [startE,Df.pv,-zq0,-zq1,-zq2,-zq3]
 refine each_row_wp 6 _ _ _ _ hdep hcnt ?_
 intro n S1 e1 k1 h1
 simp [e1,-zq0,-zq1,-zq2,-zq3]
 rw [pvs_map]
 refine accF_wp Rw.pv (fun r => stL r.ins) (fun S' k => by simp; exact pvs_map _ ▸ k.get e1 (by simp)) ?_ (fun r hr acc S2 J hl k2 hJ => ⟨_,rfl,?_⟩) ?_
 ·have:((Rw.eachs d.2.2).flatMap fun r => stL r.ins) = stL ((Rw.eachs d.2.2).flatMap Rw.ins):=by simp [stL,List.map_flatMap]
  rw [this]
  simp [stL]
  simp at hfl
  omega
 ·rw [stepI_wp]
  simp [wipeE,-zq0,-zq1,-zq2,-zq3]
  refine names_in_wp ?_ (hins r hr)
  intro m S3 e3 k3 h3
  simp [e3,-zq0,-zq1,-zq2,-zq3]
  refine accK_wp PV.str PV.str (fun S' k => by simp; exact k.get e3 (by simp)) (by simpa [stL] using hl) (fun x hx acc S4 J hl k4 hJ => ⟨_,rfl,?_⟩) ?_
  ·simp [stepE_wp,wipeE,hl]
   exact hJ _ k4
  ·intro S4 k4
   exact hJ S4 ((k2.trans k3).trans k4)
 ·intro S2 k2
  refine new_wp ?_
  intro m S3 e3 k3 h3
  have lk3:=k3.1
  simp [-zq0,-zq1,-zq2,-zq3,-zq4,-zq5,-zq6]
  refine list_wp (xs:=stL d.2.1) (by simp) ?_
  intro m4 S4 e4 k4 h4
  have lk4:=k4.1
  simp [-zq0,-zq1,-zq2,-zq3,-zq4,-zq5,-zq6]
  have en:((Rw.eachs d.2.2).flatMap fun r => stL r.ins) = stL ((Rw.eachs d.2.2).flatMap Rw.ins):=by simp [stL,List.map_flatMap]
  refine addL_wp (by (repeat' (first | assumption | refine Keep.get (by assumption) ?_ (by first | (simp; done) | (simp; omega))))) e4 (by rw [List.nil_append,en]; simp only [stL,List.length_map]; omega) ?_
  intro m5 S5 e5 k5 h5
  have lk5:=k5.1
  have e5:S5[m5]? = some (.lst (stL (namesL d))):=by rw [e5]; simp [stL,namesL,List.map_flatMap]
  have lnm:(namesL d).length ≤ 1000 * 1000 + 1000:=by simp only [namesL,List.length_append]; omega
  simp [e5,-zq0,-zq1,-zq2,-zq3,-zq4,-zq5,-zq6]
  refine accK_wp PV.str (fun x => PV.bl (nmB x)) (fun S' k => by simp; (repeat' (first | assumption | refine Keep.get (by assumption) ?_ (by first | (simp; done) | (simp; omega))))) (by simp only [List.length_nil]; omega) (fun x hx acc S6 J hl k6 hJ => ⟨_,rfl,?_⟩) ?_
  ·simp [stepE_wp,wipeE,-zq0,-zq1,-zq2,-zq3,-zq4,-zq5,-zq6]
   have:=hnl x hx
   refine is_nameB_wp (by omega) ?_
   intro S7 k7
   simp [hl]
   exact hJ _ (k6.trans k7)
  ·intro S6 k6
   refine new_wp ?_
   intro m7 S7 e7 k7 h7
   have lk7:=k7.1
   simp [e7,boolsP_map,-zq0,-zq1,-zq2,-zq3,-zq4,-zq5,-zq6]
   have e17:S7[n]? = some (.lst ((Rw.eachs d.2.2).map Rw.pv)):=by rw [← pvs_map]; (repeat' (first | assumption | refine Keep.get (by assumption) ?_ (by first | (simp; done) | (simp; omega))))
   have kk:Keep [] S S7:=by (repeat (first | exact Keep.refl | refine Keep.step ?_ (by assumption) (by first | (simp; done) | (intro x hx hlt; simp at hx ⊢; omega))))
   refine ⟨fun x hx hf => ?_,fun hall => ?_⟩
   ·have:soundB hs d = false:=by
     unfold soundB
     simp only [Bool.and_eq_false_iff,List.all_eq_false]
     exact .inl (.inl ⟨x,hx,by simp [hf]⟩)
    rw [← this]
    exact h S7 kk
   have lpl:(stL d.2.1).length = d.2.1.length:=by simp [stL]
   simp [keysP_strs,lpl,e17,-zq0,-zq1,-zq2,-zq3,-zq4,-zq5,-zq6]
   refine ⟨by omega,fun hlt => ?_,fun hlt => ?_⟩
   ·have hnd:=len_set_lt.mp hlt
    have:soundB hs d = false:=by
     unfold soundB
     simp [hnd]
    rw [← this]
    exact h S7 kk
   have hnd:d.2.1.Nodup:=by
    rcases Classical.em d.2.1.Nodup with q | q
    ·exact q
    ·have:=len_set_lt.mpr q
     omega
   refine accF_wp Rw.pv (fun r => r.callL.map Cl.pv) (fun S' k => by simp; (repeat' (first | assumption | refine Keep.get (by assumption) ?_ (by first | (simp; done) | (simp; omega))))) ?_ (fun r hr acc S8 J hl k8 hJ => ⟨_,rfl,?_⟩) ?_
   ·have:((Rw.eachs d.2.2).flatMap fun r => r.callL.map Cl.pv).length ≤ (Rw.eachs d.2.2).length * 1:=by
     refine len_flatMap_le fun r hr => ?_
     rcases callL_some (r:=r) with ⟨_,q⟩ | ⟨c,_,q⟩ <;> simp [q]
    simp only [List.length_nil]; omega
   ·rw [stepE_wp]
    simp [wipeE,-zq0,-zq1,-zq2,-zq3,-zq4,-zq5,-zq6]
    refine call_of_wp ?_
    rcases callL_some (r:=r) with ⟨q,q2⟩ | ⟨c,q,q2⟩
    ·rw [q2] at hJ
     simp [q,-zq0,-zq1,-zq2,-zq3,-zq4,-zq5,-zq6]
     simpa using hJ _ k8
    ·rw [q2] at hJ hl
     simp [q,Cl.pv,-zq0,-zq1,-zq2,-zq3,-zq4,-zq5,-zq6]
     refine call_of_wp ?_
     simp at hl
     simp [q,show acc.length < 16777216 by omega,-zq0,-zq1,-zq2,-zq3,-zq4,-zq5,-zq6]
     exact hJ _ k8
   ·intro S8 k8
    refine new_wp ?_
    intro m9 S9 e9 k9 h9
    have lk9:=k9.1
    have e9:S9[m9]? = some (.lst ((callsL d).map Cl.pv)):=by rw [e9]; simp [callsL,List.map_flatMap]
    have o9:Oth od hs S9:=ho.keep (M:=[]) (by (repeat (first | exact Keep.refl | refine Keep.step ?_ (by assumption) (by first | (simp; done) | (intro x hx hlt; simp at hx ⊢; omega))))) (by simp)
    have lcl:(callsL d).length ≤ (Rw.eachs d.2.2).length * 1:=by
     refine len_flatMap_le fun r hr => ?_
     rcases callL_some (r:=r) with ⟨_,q⟩ | ⟨c,_,q⟩ <;> simp [q]
    simp [e9,-zq0,-zq1,-zq2,-zq3,-zq4,-zq5,-zq6]
    refine accK_wp Cl.pv (fun c => PV.bl (callB hs c)) (fun S' k => by simp; (repeat' (first | assumption | refine Keep.get (by assumption) ?_ (by first | (simp; done) | (simp; omega))))) (by simp only [List.length_nil]; omega) (fun c hc acc S10 J hl k10 hJ => ⟨[some (.tup [.str d.1,.tup (stL d.2.1),.tup (Rw.pvs d.2.2)]),some (.loc od),some (.loc n),some (.loc m5),some (.loc m9),some (.str d.1),some (.tup (stL d.2.1)),some (.tup (Rw.pvs d.2.2)),none,none,some (.str c.1),some (.tup (stL c.2))],by simp [Cl.pv,wipeE],?_⟩) ?_
    ·obtain ⟨kvs,o1,o2,o3⟩:=(o9.keep k10 (by simp)).ex
     have o4:=o3 c.1
     rw [stepE_wp]
     have:=hJ _ k10
     unfold callB at this
     cases hf:firstH hs c.1 with
     | none =>
      rw [hf] at o4 this
      simp only [Option.map_none] at o4
      simp [inB,o1,o4,hl]
      exact this
     | some ps =>
      rw [hf] at o4 this
      simp only [Option.map_some] at o4
      have e1:(stL ps).length = ps.length:=by simp [stL]
      have e2:(stL c.2).length = c.2.length:=by simp [stL]
      simp [inB,o1,o4,hl,e1,e2]
      have e3:decide ((ps.length:Int) = (c.2.length:Int)) = decide (ps.length = c.2.length):=by
       by_cases q:ps.length = c.2.length <;> simp [q]; omega
      rw [e3]
      exact this
    ·intro S10 k10
     refine new_wp ?_
     intro m11 S11 e11 k11 h11
     have lk11:=k11.1
     simp [e11,boolsP_map]
     have kk2:Keep [] S S11:=by (repeat (first | exact Keep.refl | refine Keep.step ?_ (by assumption) (by first | (simp; done) | (intro x hx hlt; simp at hx ⊢; omega))))
     have:=h S11 kk2
     unfold soundB at this
     have e1:(namesL d).all nmB = true:=List.all_eq_true.mpr hall
     simp only [e1,hnd,decide_true,Bool.and_self,Bool.true_and] at this
     exact this
end K38
namespace K38
open PySem PySem.Spec PyProof.Rows L2 PL
def faultAt (hs:List Hd):List Str→List Df→Option Str
 | _,[] => none
 | met,d :: ds => if nmB d.1 = true∧d.1 ∉ met∧soundB hs d = true then faultAt hs (met ++ [d.1]) ds else some d.1
theorem faultAt_cons (hs:List Hd) (met:List Str) (d:Df) (ds:List Df):faultAt hs met (d :: ds) = if nmB d.1 = true∧d.1 ∉ met∧soundB hs d = true then faultAt hs (met ++ [d.1]) ds else some d.1:=rfl
def dueOf (ds:List Df):Option PV:=match faultAt (ds.map Df.hd) [] ds with
 | some x => some (.str x)
 | none => if firstH (ds.map Df.hd) (Str.ofString "main") = some [] then none else some .non
theorem faultAt_ok {hs:List Hd}:∀ (ds:List Df) (met:List Str),(∀ d ∈ ds,nmB d.1 = true∧soundB hs d = true)→(met ++ ds.map (·.1)).Nodup→faultAt hs met ds = none
 | [],met,_,_ => rfl
 | d :: ds,met,h,nd => by
  have h1:=h d (by simp)
  have hn:d.1 ∉ met:=fun z => by
   simp only [List.map_cons] at nd
   exact (List.nodup_append.mp nd).2.2 _ z d.1 (by simp) rfl
  unfold faultAt
  rw [if_pos ⟨h1.1,hn,h1.2⟩]
  exact faultAt_ok ds _ (fun e he => h e (by simp [he])) (by simpa using nd)
theorem dueOf_ok {ds:List Df} (p:Prg ds):dueOf ds = none:=by
 unfold dueOf
 rw [faultAt_ok ds [] p.sound (by simpa using p.nd),p.main]
 simp
theorem init_wp {ds:List Df} {sl dl:Nat} {S:Sto} {P:PV→Sto→Prop} {R:Str→PV→Sto→Prop} (hs:S[sl]? = some (.ins "Program" [])) (hd:S[dl]? = some (.lst (ds.map Df.pv))) (z:Sized ds) (hfair:∀ d ∈ ds,∀ x ∈ d.2.1,Fair x)
  (h:dueOf ds = none→∀ n S',S'[sl]? = some (.ins "Program" [(Str.ofString "definitions_kept",.loc n)])→S'[n]? = some (.lst (ds.map Df.pv))→S.length ≤ n→Keep [sl] S S'→P .non S')
  (h0:∀ w,dueOf ds = some w→∀ S',Keep [sl] S S'→R (Str.ofString "NoProgram") w S'):wp (m_q4 [.loc sl,.loc dl] S) P R:=by
 unfold m_q4
 rw [callS_wp]
 simp [startE,-zq0,-zq1,-zq2,-zq3,-zq4,-zq5,-zq6]
 refine dict_wp ?_
 intro od S1 e1 k1 h1
 have lk1:=k1.1
 have hne:sl ≠ dl:=fun q => by subst q; rw [hs] at hd; cases hd
 have lsl:=lt_of_get hs
 have ldl:=lt_of_get hd
 have hd1:S1[dl]? = some (.lst (ds.map Df.pv)):=by (repeat' (first | assumption | refine Keep.get (by assumption) ?_ (by first | (simp; done) | (simp; omega))))
 simp [hd1,-zq0,-zq1,-zq2,-zq3,-zq4,-zq5,-zq6]
 refine forM_wp Df.pv (fun dn τ S' => ∃ x5 x6 x7,τ = [some (.loc sl),some (.loc dl),some (.loc od),none,none,x5,x6,x7]∧Oth od (dn.map Df.hd) S'∧Keep [od] S1 S') ⟨_,_,_,rfl,⟨[],e1,by simp,by simp [valP,firstH]⟩,.refl⟩ ?_ ?_
 ·rintro dn d rs τ S2 J heq ⟨x5,x6,x7,rfl,o2,k2⟩ hJ
  have hl:dn.length < ds.length:=by rw [heq]; simp
  have:=z.len
  refine ⟨by simp; (repeat' (first | assumption | refine Keep.get (by assumption) ?_ (by first | (simp; done) | (simp; omega)))),[some (.loc sl),some (.loc dl),some (.loc od),none,none,some (.str d.1),some (.tup (stL d.2.1)),some (.tup (Rw.pvs d.2.2))],by simp [Df.pv],?_⟩
  obtain ⟨kvs,q1,q2,q3,q4⟩:=o2.put (f:=d.1) (ps:=d.2.1) (by simp; omega)
  have fin:∀ S3,Oth od (dn.map Df.hd ++ [(d.1,d.2.1)]) S3→Keep [od] S2 S3→J [some (.loc sl),some (.loc dl),some (.loc od),none,none,some (.str d.1),some (.tup (stL d.2.1)),some (.tup (Rw.pvs d.2.2))] S3:=fun S3 o3 k3 =>
   hJ _ _ ⟨_,_,_,rfl,by simpa [Df.hd] using o3,k2.trans k3⟩
  simp [q1,q2]
  cases hv:valP kvs (.inr d.1) with
  | none => simp; exact fin _ (q4 hv) (.set (by simp))
  | some v => simp; exact fin _ (q3 v hv) .refl
 ·rintro τ S2 ⟨x5,x6,x7,rfl,o2,k2⟩
  refine ⟨by simp; (repeat' (first | assumption | refine Keep.get (by assumption) ?_ (by first | (simp; done) | (simp; omega)))),?_⟩
  simp [-zq0,-zq1,-zq2,-zq3,-zq4,-zq5,-zq6]
  refine lst_wp (by simp) ?_
  intro md S3 e3 k3 h3
  have lk3:=k3.1
  have o3:=o2.keep k3 (by simp)
  have lod:=o2.lt
  have lk2:=k2.1
  have hd3:S3[dl]? = some (.lst (ds.map Df.pv)):=by (repeat' (first | assumption | refine Keep.get (by assumption) ?_ (by first | (simp; done) | (simp; omega))))
  simp [hd3,-zq0,-zq1,-zq2,-zq3,-zq4,-zq5,-zq6]
  refine forM_wp Df.pv (fun dn τ S' => ∃ x4,τ = [some (.loc sl),some (.loc dl),some (.loc od),some (.loc md),x4,x5,x6,x7]∧S'[md]? = some (.lst ((dn.map (·.1)).map PV.str))∧Keep [md] S3 S'∧∀ rest,ds = dn ++ rest→faultAt (ds.map Df.hd) (dn.map (·.1)) rest = faultAt (ds.map Df.hd) [] ds) ⟨_,rfl,by simpa using e3,.refl,fun rest e => by rw [e]; rfl⟩ ?_ ?_
  ·rintro dn d rs τ S4 J heq ⟨x4,rfl,e4,k4,hfa⟩ hJ
   have hm:d ∈ ds:=by rw [heq]; simp
   have hl:dn.length < ds.length:=by rw [heq]; simp
   have:=z.len
   have:=z.own d hm
   have hfa:=hfa (d :: rs) heq
   rw [faultAt_cons] at hfa
   have bad:¬ (nmB d.1 = true∧d.1 ∉ dn.map (·.1)∧soundB (ds.map Df.hd) d = true)→∀ S9,Keep [md] S3 S9→R (Str.ofString "NoProgram") (.str d.1) S9:=by
    intro hb S9 k9
    rw [if_neg hb] at hfa
    refine h0 (.str d.1) (by unfold dueOf; rw [← hfa]) S9 ?_
    refine (((Keep.refl (M:=[sl]) (S:=S)).step k1 (by simp)).step k2 ?_ |>.step k3 (by simp)).step k9 ?_
    ·intro x hx hlt; simp at hx; omega
    ·intro x hx hlt; simp at hx; omega
   have o4:=o3.keep k4 (by simp; omega)
   refine ⟨by simp; (repeat' (first | assumption | refine Keep.get (by assumption) ?_ (by first | (simp; done) | (simp; omega)))),[some (.loc sl),some (.loc dl),some (.loc od),some (.loc md),some d.pv,x5,x6,x7],by simp,?_⟩
   simp [-zq0,-zq1,-zq2,-zq3,-zq4,-zq5,-zq6]
   have pv0:∀ S,getP d.pv (.int 0) S = some (.str d.1,S):=by intro S; simp [Df.pv]
   simp [pv0,-zq0,-zq1,-zq2,-zq3,-zq4,-zq5,-zq6]
   refine is_nameB_wp (by omega) ?_
   intro S5 k5
   have e5:S5[md]? = some (.lst ((dn.map (·.1)).map PV.str)):=by (repeat' (first | assumption | refine Keep.get (by assumption) ?_ (by first | (simp; done) | (simp; omega))))
   cases hn:nmB d.1 with
   | false =>
    simp [pv0,-zq0,-zq1,-zq2,-zq3,-zq4,-zq5,-zq6]
    exact bad (by simp [hn]) S5 (k4.trans (k5.mono (by simp)))
   | true =>
    have hin:inB (.str d.1) (.loc md) S5 = some (decide (d.1 ∈ dn.map (·.1))):=inB_strs e5
    by_cases hmet:d.1 ∈ dn.map (·.1)
    ·rw [decide_eq_true hmet] at hin
     simp [pv0,hin,-zq0,-zq1,-zq2,-zq3,-zq4,-zq5,-zq6]
     exact bad (by simp only [not_and]; intro _ z; exact absurd hmet z) S5 (k4.trans (k5.mono (by simp)))
    ·rw [decide_eq_false hmet] at hin
     simp [pv0,hin,-zq0,-zq1,-zq2,-zq3,-zq4,-zq5,-zq6]
     refine is_sound_wp (o4.keep k5 (by simp)) (z.dep d hm) (z.cnt d hm) (z.ins d hm) (z.par d hm) (z.nms d hm) ?_
     intro S6 k6
     have e6:S6[md]? = some (.lst ((dn.map (·.1)).map PV.str)):=by (repeat' (first | assumption | refine Keep.get (by assumption) ?_ (by first | (simp; done) | (simp; omega))))
     have k46:Keep [md] S3 S6:=(k4.trans (k5.mono (by simp))).trans (k6.mono (by simp))
     cases hsd:soundB (ds.map Df.hd) d with
     | false =>
      simp [pv0,-zq0,-zq1,-zq2,-zq3,-zq4,-zq5,-zq6]
      exact bad (by simp [hsd]) S6 k46
     | true =>
      rw [if_pos ⟨hn,hmet,hsd⟩] at hfa
      simp [pv0,e6,-zq0,-zq1,-zq2,-zq3,-zq4,-zq5,-zq6]
      refine ⟨by omega,hJ _ _ ⟨_,rfl,?_,?_,?_⟩⟩
      ·rw [set_get e6]; simp
      ·exact k46.trans (.set (by simp))
      ·intro rest e
       have:rest = rs:=by rw [heq] at e; simpa using e.symm
       subst this
       rw [List.map_append]
       exact hfa
  ·rintro τ S4 ⟨x4,rfl,e4,k4,hfa⟩
   refine ⟨by simp; (repeat' (first | assumption | refine Keep.get (by assumption) ?_ (by first | (simp; done) | (simp; omega)))),?_⟩
   have hfa:=hfa [] (by simp)
   have hfa:faultAt (ds.map Df.hd) [] ds = none:=hfa.symm
   obtain ⟨kvs,q1,q2,q3⟩:=(o3.keep k4 (by simp; omega)).ex
   have q4:=q3 (Str.ofString "main")
   have hd4:S4[dl]? = some (.lst (ds.map Df.pv)):=by (repeat' (first | assumption | refine Keep.get (by assumption) ?_ (by first | (simp; done) | (simp; omega))))
   have lk4:=k4.1
   have kall:Keep [sl] S S4:=by
    refine (((Keep.refl (M:=[sl]) (S:=S)).step k1 (by simp)).step k2 ?_ |>.step k3 (by simp)).step k4 ?_
    ·intro x hx hlt; simp at hx; omega
    ·intro x hx hlt; simp at hx; omega
   have key:∀ (b:Bool) (v:PV),((valP kvs (.inr (Str.ofString "main"))).getD (.tup [.str (Str.ofString "main")])) = v→eqB v (.tup []) S4 = some b→(b = true↔firstH (ds.map Df.hd) (Str.ofString "main") = some [])→True:=fun _ _ _ _ _ => trivial
   obtain ⟨v,hv,hpl,hiff⟩:∃ v,(valP kvs (.inr (Str.ofString "main"))).getD (.tup [.str (Str.ofString "main")]) = v∧Pl 1 v∧(v = .tup []↔firstH (ds.map Df.hd) (Str.ofString "main") = some []):=by
    rw [q4]
    cases hf:firstH (ds.map Df.hd) (Str.ofString "main") with
    | none => exact ⟨_,rfl,by simp only [Option.map_none,Option.getD_none,Pl,PlL]; exact ⟨ofS_fair "main",trivial⟩,by simp⟩
    | some ps =>
     refine ⟨_,rfl,?_,by cases ps <;> simp [stL]⟩
     simp only [Option.map_some,Option.getD_some,Pl]
     refine fairL fun x hx => ?_
     unfold firstH at hf
     simp only [Option.map_eq_some_iff] at hf
     obtain ⟨q,hq1,hq2⟩:=hf
     obtain ⟨d,hd,rfl⟩:=List.mem_map.mp (List.mem_of_find?_eq_some hq1)
     exact hfair d hd x (by rw [← hq2] at hx; exact hx)
   obtain ⟨b,hb1,hb2⟩:=eqB_plain (n:=1) (S:=S4) (q:=PV.tup []) (by decide) hpl (by simp [Pl,PlL])
   simp [q1,hv,hb1,hd4,-zq0,-zq1,-zq2,-zq3,-zq4,-zq5,-zq6]
   cases hb:b with
   | false =>
    subst hb
    simp [-zq0,-zq1,-zq2,-zq3,-zq4,-zq5,-zq6]
    refine h0 .non ?_ S4 kall
    unfold dueOf
    rw [hfa]
    simp only
    rw [if_neg]
    intro z
    have:=hb2.mpr (hiff.mpr z)
    cases this
   | true =>
    subst hb
    simp [hd4,-zq0,-zq1,-zq2,-zq3,-zq4,-zq5,-zq6]
    refine list_wp (xs:=ds.map Df.pv) (by simp [hd4]) ?_
    intro n S5 e5 k5 h5
    have lk5:=k5.1
    have hs4:S4[sl]? = some (.ins "Program" []):=by
     refine (Keep.get k4 (Keep.get k3 (Keep.get k2 (Keep.get k1 hs (by simp)) ?_) (by simp)) ?_)
     ·simp; omega
     ·simp; omega
    have hs5:S5[sl]? = some (.ins "Program" []):=k5.get hs4 (by simp)
    simp [hs5,putG,-zq0,-zq1,-zq2,-zq3,-zq4,-zq5,-zq6]
    have hdue:dueOf ds = none:=by
     unfold dueOf
     rw [hfa]
     simp only
     rw [if_pos (hiff.mp (hb2.mp rfl))]
    refine h hdue n _ (set_get hs5) ?_ (by omega) ?_
    ·rw [List.getElem?_set_ne (by omega)]; exact e5
    ·exact (kall.trans (k5.mono (by simp))).trans (.set (by simp))
end K38
namespace K38
open PySem PySem.Spec PyProof.Rows L2 PL
theorem make_wp {ds:List Df} {ha:Nat} {S:Sto} {P:PV→Sto→Prop} {R:Str→PV→Sto→Prop} (e:S[ha]? = some (.lst (ds.map Df.pv))) (z:Sized ds) (hfair:∀ d ∈ ds,∀ x ∈ d.2.1,Fair x)
  (h:dueOf ds = none→∀ pl n S',S'[pl]? = some (.ins "Program" [(Str.ofString "definitions_kept",.loc n)])→S'[n]? = some (.lst (ds.map Df.pv))→S.length ≤ pl→S.length ≤ n→Keep [] S S'→P (.loc pl) S')
  (h0:∀ w,dueOf ds = some w→∀ S',Keep [] S S'→R (Str.ofString "NoProgram") w S') :
  wp (m_q4 [.loc S.length,.loc ha] (S ++ [.ins "Program" []])) (wK (madeO S.length) P R) R:=by
 refine init_wp (ds:=ds) app_new (by rw [List.getElem?_append_left (lt_of_get e)]; exact e) z hfair ?_ ?_
 ·intro hd n S6 i1 i2 i3 k6
  have:S.length ≤ n:=by simp at i3; omega
  exact h hd S.length n S6 i1 i2 (Nat.le_refl _) this ((Keep.app (M:=[])).step k6 (by intro x hx hlt; simp at hx; omega))
 ·intro w hw S6 k6
  exact h0 w hw S6 ((Keep.app (M:=[])).step k6 (by intro x hx hlt; simp at hx; omega))
theorem makeP_wp {ds:List Df} {ha:Nat} {S:Sto} {P:PV→Sto→Prop} {R:Str→PV→Sto→Prop} (e:S[ha]? = some (.lst (ds.map Df.pv))) (p:Prg ds)
  (h:∀ pl n S',S'[pl]? = some (.ins "Program" [(Str.ofString "definitions_kept",.loc n)])→S'[n]? = some (.lst (ds.map Df.pv))→S.length ≤ pl→S.length ≤ n→Keep [] S S'→P (.loc pl) S') :
  wp (m_q4 [.loc S.length,.loc ha] (S ++ [.ins "Program" []])) (wK (madeO S.length) P R) R :=
 make_wp e p.sized (fun d hd => (p.fair d hd).2.1) (fun _ => h) fun w hw => by rw [dueOf_ok p] at hw; cases hw
end K38
namespace K38
open PySem PySem.Spec PyProof.Rows L2 PL
theorem size_of_wp {rs:List Rw} {S:Sto} {P:PV→Sto→Prop} {R:Str→PV→Sto→Prop} (hd:Rw.deps rs < 6) (hl:(Rw.eachs rs).length ≤ 1000) (h:∀ S',Keep [] S S'→P (.int ((Rw.eachs rs).length:Nat)) S') :
  wp (m_q27 [.tup (Rw.pvs rs)] S) P R:=by
 unfold m_q27
 rw [callS_wp]
 simp [startE,-zq0,-zq1,-zq2,-zq3,-zq4,-zq5,-zq6]
 refine each_row_wp 6 rs S _ _ hd hl ?_
 intro n S1 e1 k1 g1
 have:(Rw.pvs (Rw.eachs rs)).length = (Rw.eachs rs).length:=by rw [pvs_map]; simp
 simp [e1,this,-zq0,-zq1,-zq2,-zq3,-zq4,-zq5,-zq6]
 exact h S1 k1
theorem definitions_wp {ds:List Df} {pl:Nat} {S:Sto} {P:PV→Sto→Prop} {R:Str→PV→Sto→Prop} (hp:PrgAt pl ds S) (h:∀ n S',S'[n]? = some (.lst (ds.map Df.pv))→Keep [] S S'→S.length ≤ n→P (.loc n) S'):wp (m_q0 [.loc pl] S) P R:=by
 obtain ⟨n,h1,h2⟩:=hp
 unfold m_q0
 rw [callS_wp]
 simp [startE,h1,List.lookup,-zq0,-zq1,-zq2,-zq3,-zq4,-zq5,-zq6]
 refine list_wp (xs:=ds.map Df.pv) (by simp [h2]) ?_
 intro m S1 e1 k1 g1
 have lk1:=k1.1
 simp
 exact h m S1 e1 k1 g1
end K38
namespace PL
open PySem PySem.Spec PyProof.Rows L2
open Classical in
noncomputable def lamk2 (nm q:Str) (F:Addr→V→FM) (j:Option Nat) (τ : En) (p1:PV):PV→Sto→Out PV:=fun p2 S2 =>
 match capOf j τ with
 | none => .bad
 | some m => if S2[0]? = some (.tab nm q) then (if h:∃ (v:PV) (n:Nat),Pl n v∧∀ f vm,wp (F f vm [p1,p2,.fn f vm m] S2) (fun v' S4 => v' = v∧Keep [] S2 S4) (fun _ _ _ => False) then .ok (Classical.choose h) S2 else .bad) else .bad
noncomputable def lamk1 (nm q:Str) (F:Addr→V→FM) (j:Option Nat) (m2:EM PV) (τ : En):PV→Sto→Out PV:=fun p1 S1 => bnd (m2 τ S1) (lamk2 nm q F j τ p1)
@[simp] theorem e_lamchM (nm q:Str) (F:Addr→V→FM) (j:Option Nat) (m1 m2:EM PV) (τ : En) (S:Sto):lamchM nm q F j m1 m2 τ S = bnd (m1 τ S) (lamk1 nm q F j m2 τ):=rfl
@[simp] theorem e_lamk1 (nm q:Str) (F:Addr→V→FM) (j:Option Nat) (m2:EM PV) (τ : En) (p1:PV) (S:Sto):lamk1 nm q F j m2 τ p1 S = bnd (m2 τ S) (lamk2 nm q F j τ p1):=rfl
theorem wp_one {o:Out PV} {v w:PV} {S:Sto} (h:wp o (fun v' S' => v' = v∧Keep [] S S') (fun _ _ _ => False)) (h':wp o (fun v' S' => v' = w∧Keep [] S S') (fun _ _ _ => False)):v = w:=by
 cases o with
 | ok a S' => exact (show a = v from h.1).symm.trans h'.1
 | er c p S' => exact h.elim
 | bad => exact h.elim
theorem lamk2_wp {nm q:Str} {F:Addr→V→FM} {j:Option Nat} {τ : En} {p1 p2 m v:PV} {n:Nat} {S:Sto} {P:PV→Sto→Prop} {R:Str→PV→Sto→Prop} (hc:capOf j τ = some m) (h0:S[0]? = some (.tab nm q)) (hp:Pl n v)
  (hw:∀ f vm,wp (F f vm [p1,p2,.fn f vm m] S) (fun v' S' => v' = v∧Keep [] S S') (fun _ _ _ => False)) (h:P v S):wp (lamk2 nm q F j τ p1 p2 S) P R:=by
 have hex:∃ (v:PV) (n:Nat),Pl n v∧∀ f vm,wp (F f vm [p1,p2,.fn f vm m] S) (fun v' S4 => v' = v∧Keep [] S S4) (fun _ _ _ => False):=⟨v,n,hp,hw⟩
 unfold lamk2
 simp only [hc,if_pos h0,dif_pos hex,wp_ok]
 obtain ⟨_,_,hs⟩:=Classical.choose_spec hex
 rw [wp_one (hs 0 .non) (hw 0 .non)]
 exact h
end PL
namespace K38
open PySem PySem.Spec PyProof.Rows L2 PL
mutual
def chgs (f:Rw→List Rw):List Rw→Nat→List Rw
 | [],_ => []
 | r :: rs,n => if n = 1 then f r ++ rs else if n ≤ r.each.length then chg1 f r (n - 1) :: rs else r :: chgs f rs (n - r.each.length)
def chg1 (f:Rw→List Rw):Rw→Nat→Rw
 | .iff x a b,n => if n ≤ (Rw.eachs a).length then .iff x (chgs f a n) b else .iff x a (chgs f b (n - (Rw.eachs a).length))
 | .set x v,_ => .set x v
 | .send x,_ => .send x
 | .give x,_ => .give x
end
theorem chgs_at (f:Rw→List Rw):∀ (dn:List Rw) (rs:List Rw) (n:Nat),(Rw.eachs dn).length < n→chgs f (dn ++ rs) n = dn ++ chgs f rs (n - (Rw.eachs dn).length)
 | [],rs,n,_ => by simp [Rw.eachs]
 | r :: dn,rs,n,h => by
  have hp:=Rw.each_pos r
  simp only [Rw.eachs,List.length_append] at h ⊢
  rw [List.cons_append,chgs,if_neg (by omega),if_neg (by omega),chgs_at f dn rs _ (by omega),Nat.sub_sub,List.cons_append]
structure LamOk (B:EM PV) (m:PV) (f:Rw→List Rw) (S:Sto):Prop where
 eq:∀ (r:Rw) (S':Sto),Keep [] S S'→B [some r.pv,some m] S' = .ok (.tup (Rw.pvs (f r))) S'
 few:∀ r,(f r).length ≤ 2
theorem LamOk.keep {B:EM PV} {m:PV} {f:Rw→List Rw} {S S':Sto} (L:LamOk B m f S) (k:Keep [] S S'):LamOk B m f S':=⟨fun r S2 k2 => L.eq r S2 (k.trans k2),L.few⟩
theorem changed_wp {B:EM PV} {m:PV} {fR:Rw→List Rw} {fa:Addr} {vm:V}:∀ (d:Nat) (rs:List Rw) (n:Nat) (S:Sto) (P:PV→Sto→Prop) (R:Str→PV→Sto→Prop),LamOk B m fR S→Rw.deps rs < d→d ≤ 6→(Rw.eachs rs).length ≤ 100→1 ≤ n →
  (∀ S',Keep [] S S'→P (.tup (Rw.pvs (chgs fR rs n))) S')→wp (m_changed fa vm B d [.tup (Rw.pvs rs),.int (n:Nat),.fn fa vm m] S) P R
 | 0,_,_,_,_,_,_,h,_,_,_,_ => by omega
 | d + 1,rs,n,S,P,R,L,hd,h6,hl,hn,h => by
  unfold m_changed
  rw [callS_wp]
  simp [startE,-zq0,-zq1,-zq2,-zq3,-zq4,-zq5,-zq6]
  rw [pvs_map]
  have lrs:=len_eachs rs
  refine forE_wp Rw.pv (fun i τ S' => ∃ (x3 x4 x5 x6 x7 x8 x9 x10 x11:Option PV),(Rw.eachs (rs.take i)).length < n ∧
    τ = [some (.tup (rs.map Rw.pv)),some (.int (n - (Rw.eachs (rs.take i)).length:Nat)),some (.fn fa vm m),x3,x4,x5,x6,x7,x8,x9,x10,x11]∧Keep [] S S')
   ?_ ?_ ?_
  ·exact ⟨none,none,none,none,none,none,none,none,none,by simp [Rw.eachs]; omega,by simp [Rw.eachs],.refl⟩
  ·rintro i r τ S2 J hr ⟨x3,x4,x5,x6,x7,x8,x9,x10,x11,hlt,rfl,k2⟩ hJ
   refine ⟨by simp,_,rfl,?_⟩
   have hil:i < rs.length:=(List.getElem?_eq_some_iff.mp hr).1
   have htk:(Rw.eachs (rs.take (i + 1))).length = (Rw.eachs (rs.take i)).length + r.each.length:=by
    rw [List.take_succ,hr,eachs_app]; simp [Rw.eachs]
   have hsplit:rs = rs.take i ++ r :: rs.drop (i + 1):=by
    rw [← drop_of_get hr,List.take_append_drop]
   have hcnt:(Rw.eachs (rs.take i)).length + r.each.length ≤ (Rw.eachs rs).length:=by
    rw [← htk]
    have:=congrArg (fun q => (Rw.eachs q).length) (List.take_append_drop (i + 1) rs)
    simp only [eachs_app,List.length_append] at this
    omega
   have hdr:r.dep < d + 1:=by
    rw [hsplit,deps_app] at hd
    simp only [Rw.deps] at hd
    omega
   have hval:chgs fR rs n = rs.take i ++ chgs fR (r :: rs.drop (i + 1)) (n - (Rw.eachs (rs.take i)).length):=by
    have:=chgs_at fR (rs.take i) (r :: rs.drop (i + 1)) n hlt
    rw [← hsplit] at this
    exact this
   have c1:cutP (rs.map Rw.pv) none (some (i:Int)) = (rs.take i).map Rw.pv:=by rw [cut_take,List.map_take]
   have c2:cutP (rs.map Rw.pv) (some ((i:Int) + 1)) none = (rs.drop (i + 1)).map Rw.pv:=by
    have e:((i + 1:Nat):Int) = (i:Int) + 1:=by omega
    rw [← e,cut_drop,List.map_drop]
   generalize hk:n - (Rw.eachs (rs.take i)).length = k at *
   have hk1:1 ≤ k:=by omega
   have L2:=L.keep k2
   have fin:∀ (ys:List Rw) S',chgs fR (r :: rs.drop (i + 1)) k = ys→Keep [] S S'→P (.tup (Rw.pvs (rs.take i ++ ys))) S':=fun ys S' e kk => by
    have:=h S' kk
    rwa [hval,e] at this
   by_cases hk0:k = 1
   ·subst hk0
    simp [L2.eq r S2 .refl,c1,c2,lamCM,-zq0,-zq1,-zq2,-zq3,-zq4,-zq5,-zq6]
    have:=L2.few r
    have l1:(Rw.pvs (fR r)).length = (fR r).length:=by rw [pvs_map]; simp
    refine ⟨by omega,by omega,?_⟩
    have:=fin (fR r ++ rs.drop (i + 1)) S2 (by rw [chgs,if_pos rfl]) k2
    simpa [pvs_map] using this
   ·have hk':¬ ((k:Int) = 1):=by omega
    simp [hk',-zq0,-zq1,-zq2,-zq3,-zq4,-zq5,-zq6]
    rw [show [r.pv] = Rw.pvs [r] from rfl]
    refine size_of_wp (by simp [Rw.deps]; omega) (by simp [Rw.eachs]; omega) ?_
    intro S3 k3
    have e1r:(Rw.eachs [r]).length = r.each.length:=by simp [Rw.eachs]
    rw [e1r]
    simp [-zq0,-zq1,-zq2,-zq3,-zq4,-zq5,-zq6]
    refine ⟨fun hle => ?_,fun hgt => ?_⟩
    ·cases r with
     | set x v => simp [Rw.each] at hle; omega
     | send x => simp [Rw.each] at hle; omega
     | give x => simp [Rw.each] at hle; omega
     | iff x a b =>
      simp [Rw.dep] at hdr
      simp [Rw.each] at hcnt hle
      simp [Rw.pv,-zq0,-zq1,-zq2,-zq3,-zq4,-zq5,-zq6]
      refine size_of_wp (rs:=a) (by omega) (by omega) ?_
      intro S4 k4
      have K4:Keep [] S S4:=(k2.trans k3).trans k4
      have z1:((k:Int) - 1) = ((k - 1:Nat):Int):=by omega
      simp [-zq0,-zq1,-zq2,-zq3,-zq4,-zq5,-zq6]
      refine ⟨fun h1 => ?_,fun h1 => ?_⟩
      ·rw [z1]
       refine changed_wp d a (k - 1) S4 _ _ (L.keep K4) (by omega) (by omega) (by omega) (by omega) ?_
       intro S5 k5
       simp [c1,c2,-zq0,-zq1,-zq2,-zq3,-zq4,-zq5,-zq6]
       refine ⟨by omega,by omega,?_⟩
       have:=fin (.iff x (chgs fR a (k - 1)) b :: rs.drop (i + 1)) S5 (by rw [chgs,if_neg hk0,if_pos (by simp [Rw.each]; omega),chg1,if_pos (by omega)]) (K4.trans k5)
       simpa [pvs_map,Rw.pv] using this
      ·have z2:((k:Int) - 1 - ((Rw.eachs a).length:Nat)) = ((k - 1 - (Rw.eachs a).length:Nat):Int):=by omega
       rw [z2]
       refine changed_wp d b (k - 1 - (Rw.eachs a).length) S4 _ _ (L.keep K4) (by omega) (by omega) (by omega) (by omega) ?_
       intro S5 k5
       simp [c1,c2,-zq0,-zq1,-zq2,-zq3,-zq4,-zq5,-zq6]
       refine ⟨by omega,by omega,?_⟩
       have:=fin (.iff x a (chgs fR b (k - 1 - (Rw.eachs a).length)) :: rs.drop (i + 1)) S5 (by rw [chgs,if_neg hk0,if_pos (by simp [Rw.each]; omega),chg1,if_neg (by omega)]) (K4.trans k5)
       simpa [pvs_map,Rw.pv] using this
    ·have z3:((k:Int) - (r.each.length:Nat)) = ((n - (Rw.eachs (rs.take (i + 1))).length:Nat):Int):=by rw [htk]; omega
     rw [z3]
     exact hJ _ _ ⟨_,_,_,_,_,_,_,_,_,by rw [htk]; omega,rfl,k2.trans k3⟩
  ·rintro τ S2 ⟨x3,x4,x5,x6,x7,x8,x9,x10,x11,hlt,rfl,k2⟩
   refine ⟨by simp,?_⟩
   have:=h S2 k2
   rw [List.take_length] at hlt
   have e:=chgs_at fR rs [] n hlt
   rw [List.append_nil,chgs,List.append_nil] at e
   simp [-zq0,-zq1,-zq2,-zq3,-zq4,-zq5,-zq6]
   rw [e] at this
   simpa [pvs_map] using this
end K38
namespace K38
open PySem PySem.Spec PyProof.Rows L2 PL
section
variable {f:Rw→List Rw}
mutual
theorem chgs_deps (hf:∀ r,Rw.deps (f r) ≤ r.dep):∀ (rs:List Rw) (n:Nat),Rw.deps (chgs f rs n) ≤ Rw.deps rs
 | [],n => by simp [chgs]
 | r :: rs,n => by
  rw [chgs]
  split
  ·rw [deps_app]
   have:=hf r
   simp only [Rw.deps]; omega
  ·split
   ·have:=chg1_dep hf r (n - 1)
    simp only [Rw.deps]; omega
   ·have:=chgs_deps hf rs (n - r.each.length)
    simp only [Rw.deps]; omega
theorem chg1_dep (hf:∀ r,Rw.deps (f r) ≤ r.dep):∀ (r:Rw) (n:Nat),(chg1 f r n).dep ≤ r.dep
 | .iff x a b,n => by
  rw [chg1]
  split
  ·have:=chgs_deps hf a n
   simp only [Rw.dep]; omega
  ·have:=chgs_deps hf b (n - (Rw.eachs a).length)
   simp only [Rw.dep]; omega
 | .set x v,n => by simp [chg1]
 | .send x,n => by simp [chg1]
 | .give x,n => by simp [chg1]
end
mutual
theorem chgs_oks {ns:List Str} {hs:List Hd} (hf:∀ r,r.ok ns hs→Rw.oks ns hs (f r)):∀ (rs:List Rw) (n:Nat),Rw.oks ns hs rs→Rw.oks ns hs (chgs f rs n)
 | [],n,h => by simp [chgs,Rw.oks]
 | r :: rs,n,h => by
  rw [chgs]
  split
  ·exact oks_app.mpr ⟨hf r h.1,h.2⟩
  ·split
   ·exact ⟨chg1_ok hf r (n - 1) h.1,h.2⟩
   ·exact ⟨h.1,chgs_oks hf rs _ h.2⟩
theorem chg1_ok {ns:List Str} {hs:List Hd} (hf:∀ r,r.ok ns hs→Rw.oks ns hs (f r)):∀ (r:Rw) (n:Nat),r.ok ns hs→(chg1 f r n).ok ns hs
 | .iff x a b,n,h => by
  rw [chg1]
  split
  ·exact ⟨h.1,chgs_oks hf a n h.2.1,h.2.2⟩
  ·exact ⟨h.1,h.2.1,chgs_oks hf b _ h.2.2⟩
 | .set x v,n,h => by simpa [chg1] using h
 | .send x,n,h => by simpa [chg1] using h
 | .give x,n,h => by simpa [chg1] using h
end
end
theorem Rw.dep_pos:∀ r:Rw,1 ≤ r.dep
 | .iff _ _ _ => by simp [Rw.dep]
 | .set _ _ => by simp [Rw.dep]
 | .send _ => by simp [Rw.dep]
 | .give _ => by simp [Rw.dep]
end K38
namespace K38
open PySem PySem.Spec PyProof.Rows L2 PL
inductive Deed where
 | dfn (T:Str) (ps:List Str) (rs:List Rw)
 | drop (T:Str)
 | cut (T:Str) (n:Int)
 | put (T:Str) (n:Int) (x:Rw)
 | turn (T:Str) (n:Int) (x:Rw)
def Deed.pv:Deed→PV
 | .dfn T ps rs => .tup [.str (Str.ofString "def"),.str T,.tup (stL ps),.tup (Rw.pvs rs)]
 | .drop T => .tup [.str (Str.ofString "drop"),.str T]
 | .cut T n => .tup [.str (Str.ofString "cut"),.str T,.int n]
 | .put T n x => .tup [.str (Str.ofString "put"),.str T,.int n,x.pv]
 | .turn T n x => .tup [.str (Str.ofString "turn"),.str T,.int n,x.pv]
def Deed.ti:Deed→Str
 | .dfn T _ _ => T
 | .drop T => T
 | .cut T _ => T
 | .put T _ _ => T
 | .turn T _ _ => T
def Deed.what:Deed→PV
 | .dfn T _ _ => .tup [.str T,.non]
 | .drop T => .tup [.str T,.non]
 | .cut T n => .tup [.str T,.int n]
 | .put T n _ => .tup [.str T,.int n]
 | .turn T n _ => .tup [.str T,.int n]
inductive REd where
 | cut | put (x:Rw) | turn (x:Rw)
def REd.word:REd→Str
 | .cut => Str.ofString "cut"
 | .put _ => Str.ofString "put"
 | .turn _ => Str.ofString "turn"
def REd.more:REd→List Rw
 | .cut => []
 | .put x => [x]
 | .turn x => [x]
def REd.pv (e:REd) (T:Str) (n:Int):PV:=.tup ([.str e.word,.str T,.int n] ++ Rw.pvs e.more)
def REd.isPut:REd→Bool
 | .put _ => true
 | _ => false
def REd.F:REd→Rw→List Rw
 | .cut => fun _ => []
 | .put x => fun r => [x,r]
 | .turn x => fun _ => [x]
def rowsE (rs:List Rw) (e:REd) (n:Int):Option (List Rw) :=
 if 1 ≤ n∧n ≤ ((Rw.eachs rs).length:Nat) then some (chgs e.F rs n.toNat)
 else if e.isPut = true∧n = ((Rw.eachs rs).length:Nat) + 1 then some (rs ++ e.more)
 else none
def Deed.re:Deed→Option (REd × Int)
 | .cut _ n => some (.cut,n)
 | .put _ n x => some (.put x,n)
 | .turn _ n x => some (.turn x,n)
 | _ => none
theorem re_pv {d:Deed} {e:REd} {n:Int} (h:d.re = some (e,n)):d.pv = e.pv d.ti n∧d.what = .tup [.str d.ti,.int n]:=by
 cases d <;> simp [Deed.re] at h <;> obtain ⟨rfl,rfl⟩:=h <;> exact ⟨rfl,rfl⟩
def setD (T:Str) (rs:List Rw):List Df→List Df
 | [] => []
 | d :: ds => if d.1 = T then (T,d.2.1,rs) :: ds else d :: setD T rs ds
def dropD (T:Str):List Df→List Df
 | [] => []
 | d :: ds => if d.1 = T then ds else d :: dropD T ds
def edE (ds:List Df):Deed→Option (List Df)
 | .dfn T ps rs => some (ds.map (fun d => if d.1 = T then (T,ps,rs) else d) ++ if T ∈ ds.map (·.1) then [] else [(T,ps,rs)])
 | .drop T => if T ∈ ds.map (·.1) then some (dropD T ds) else none
 | .cut T n => (ds.find? fun d => decide (d.1 = T)).bind fun d => (rowsE d.2.2 .cut n).map fun rs => setD T rs ds
 | .put T n x => (ds.find? fun d => decide (d.1 = T)).bind fun d => (rowsE d.2.2 (.put x) n).map fun rs => setD T rs ds
 | .turn T n x => (ds.find? fun d => decide (d.1 = T)).bind fun d => (rowsE d.2.2 (.turn x) n).map fun rs => setD T rs ds
theorem edE_re {ds:List Df} {d:Deed} {e:REd} {n:Int} (h:d.re = some (e,n)):edE ds d = (ds.find? fun q => decide (q.1 = d.ti)).bind fun q => (rowsE q.2.2 e n).map fun rs => setD d.ti rs ds:=by
 cases d <;> simp [Deed.re] at h <;> obtain ⟨rfl,rfl⟩:=h <;> rfl
theorem drop_nd {T:Str}:∀ {ds:List Df},(ds.map (·.1)).Nodup→ds.filter (fun d => decide (d.1 ≠ T)) = dropD T ds
 | [],_ => rfl
 | d :: ds,nd => by
  rw [List.map_cons,List.nodup_cons] at nd
  unfold dropD
  by_cases h:d.1 = T
  ·have:ds.filter (fun d => decide (d.1 ≠ T)) = ds:=by
    refine List.filter_eq_self.mpr fun q hq => ?_
    have:q.1 ≠ T:=fun z => nd.1 (by rw [h,← z]; exact List.mem_map_of_mem hq)
    simp [this]
   rw [List.filter_cons_of_neg (by simp [h]),if_pos h,this]
  ·rw [List.filter_cons_of_pos (by simp [h]),if_neg h,drop_nd nd.2]
theorem find_split {T:Str}:∀ {ds:List Df} {q:Df},ds.find? (fun d => decide (d.1 = T)) = some q→∃ a b,ds = a ++ q :: b∧q.1 = T∧T ∉ a.map (·.1)
 | [],q,h => by cases h
 | d :: ds,q,h => by
  rw [List.find?_cons] at h
  by_cases e:d.1 = T
  ·simp only [e,decide_true] at h
   cases h
   exact ⟨[],ds,rfl,e,by simp⟩
  ·simp only [e,decide_false] at h
   obtain ⟨a,b,h1,h2,h3⟩:=find_split h
   refine ⟨d :: a,b,by rw [h1]; rfl,h2,?_⟩
   rw [List.map_cons,List.mem_cons,not_or]
   exact ⟨fun z => e z.symm,h3⟩
theorem find_none {T:Str} {ds:List Df}:ds.find? (fun d => decide (d.1 = T)) = none↔T ∉ ds.map (·.1):=by
 rw [List.find?_eq_none]
 simp only [List.mem_map,not_exists,not_and,decide_eq_true_eq]
theorem setD_at {T:Str} {rs:List Rw} {q:Df} {b:List Df} (hq:q.1 = T):∀ {a:List Df},T ∉ a.map (·.1)→setD T rs (a ++ q :: b) = a ++ (T,q.2.1,rs) :: b
 | [],_ => by simp [setD,hq]
 | d :: a,h => by
  rw [List.map_cons,List.mem_cons,not_or] at h
  rw [List.cons_append,setD,if_neg fun z => h.1 z.symm,setD_at hq h.2]; rfl
theorem dropD_at {T:Str} {q:Df} {b:List Df} (hq:q.1 = T):∀ {a:List Df},T ∉ a.map (·.1)→dropD T (a ++ q :: b) = a ++ b
 | [],_ => by simp [dropD,hq]
 | d :: a,h => by
  rw [List.map_cons,List.mem_cons,not_or] at h
  rw [List.cons_append,dropD,if_neg fun z => h.1 z.symm,dropD_at hq h.2]; rfl
theorem chgs_few {f:Rw→List Rw} {k:Nat} (hf:∀ r,(Rw.eachs (f r)).length ≤ r.each.length + k):∀ (rs:List Rw) (n:Nat),(Rw.eachs (chgs f rs n)).length ≤ (Rw.eachs rs).length + k:=by
 have key:∀ (m:Nat) (rs:List Rw) (n:Nat),Rw.deps rs ≤ m→(Rw.eachs (chgs f rs n)).length ≤ (Rw.eachs rs).length + k:=by
  intro m
  induction m with
  | zero =>
   intro rs n h
   cases rs with
   | nil => simp [chgs,Rw.eachs]
   | cons r rs =>
    have:=Rw.dep_pos r
    simp only [Rw.deps] at h; omega
  | succ m ih =>
   intro rs
   induction rs with
   | nil => intro n _; simp [chgs,Rw.eachs]
   | cons r rs ihr =>
    intro n h
    simp only [Rw.deps] at h
    rw [chgs]
    split
    ·rw [eachs_app,List.length_append]
     have:=hf r
     simp only [Rw.eachs,List.length_append]; omega
    ·split
     ·have:(chg1 f r (n - 1)).each.length ≤ r.each.length + k:=by
       cases r with
       | iff x a b =>
        simp only [Rw.dep] at h
        rw [chg1]
        split
        ·have:=ih a (n - 1) (by omega)
         simp only [Rw.each,List.length_cons,List.length_append]; omega
        ·have:=ih b (n - 1 - (Rw.eachs a).length) (by omega)
         simp only [Rw.each,List.length_cons,List.length_append]; omega
       | set x v => simp [chg1]
       | send x => simp [chg1]
       | give x => simp [chg1]
      simp only [Rw.eachs,List.length_append]; omega
     ·have:=ihr (n - r.each.length) (by omega)
      simp only [Rw.eachs,List.length_append]; omega
 exact fun rs n => key _ rs n (Nat.le_refl _)
section
variable {f:Rw→List Rw} {p:Str→Prop}
mutual
theorem chgs_all (hf:∀ r,r.All p→Rw.Alls p (f r)):∀ (rs:List Rw) (n:Nat),Rw.Alls p rs→Rw.Alls p (chgs f rs n)
 | [],n,h => by simp [chgs,Rw.Alls]
 | r :: rs,n,h => by
  rw [chgs]
  split
  ·refine Alls_iff.mpr fun q hq => ?_
   rcases List.mem_append.mp hq with z | z
   ·exact Alls_iff.mp (hf r h.1) q z
   ·exact Alls_iff.mp h.2 q z
  ·split
   ·exact ⟨chg1_all hf r (n - 1) h.1,h.2⟩
   ·exact ⟨h.1,chgs_all hf rs _ h.2⟩
theorem chg1_all (hf:∀ r,r.All p→Rw.Alls p (f r)):∀ (r:Rw) (n:Nat),r.All p→(chg1 f r n).All p
 | .iff x a b,n,h => by
  rw [chg1]
  split
  ·exact ⟨h.1,chgs_all hf a n h.2.1,h.2.2⟩
  ·exact ⟨h.1,h.2.1,chgs_all hf b _ h.2.2⟩
 | .set x v,n,h => by simpa [chg1] using h
 | .send x,n,h => by simpa [chg1] using h
 | .give x,n,h => by simpa [chg1] using h
end
end
end K38
namespace K38
open PySem PySem.Spec PyProof.Rows L2 PL
abbrev tabO':Ob:=.tab "rows_edited" "rows_edited.<locals>.<lambda>"
section
variable {f:Rw→List Rw} {k:Nat}
mutual
theorem chgs_depk (hf:∀ r,Rw.deps (f r) ≤ r.dep + k):∀ (rs:List Rw) (n:Nat),Rw.deps (chgs f rs n) ≤ Rw.deps rs + k
 | [],n => by simp [chgs,Rw.deps]
 | r :: rs,n => by
  rw [chgs]
  split
  ·rw [deps_app]
   have:=hf r
   simp only [Rw.deps]; omega
  ·split
   ·have:=chg1_depk hf r (n - 1)
    simp only [Rw.deps]; omega
   ·have:=chgs_depk hf rs (n - r.each.length)
    simp only [Rw.deps]; omega
theorem chg1_depk (hf:∀ r,Rw.deps (f r) ≤ r.dep + k):∀ (r:Rw) (n:Nat),(chg1 f r n).dep ≤ r.dep + k
 | .iff x a b,n => by
  rw [chg1]
  split
  ·have:=chgs_depk hf a n
   simp only [Rw.dep]; omega
  ·have:=chgs_depk hf b (n - (Rw.eachs a).length)
   simp only [Rw.dep]; omega
 | .set x v,n => by simp [chg1]
 | .send x,n => by simp [chg1]
 | .give x,n => by simp [chg1]
end
end
theorem REd.depF {e:REd} (h:∀ x ∈ e.more,x.dep ≤ 2) (r:Rw):Rw.deps (e.F r) ≤ r.dep + 1:=by
 have:=Rw.dep_pos r
 cases e with
 | cut => simp [REd.F,Rw.deps]
 | put x => have:=h x (by simp [REd.more]); simp only [REd.F,Rw.deps]; omega
 | turn x => have:=h x (by simp [REd.more]); simp only [REd.F,Rw.deps]; omega
theorem REd.allF {e:REd} {p:Str→Prop} (h:∀ x ∈ e.more,x.All p) (r:Rw) (hr:r.All p):Rw.Alls p (e.F r):=by
 cases e with
 | cut => trivial
 | put x => exact ⟨h x (by simp [REd.more]),hr,trivial⟩
 | turn x => exact ⟨h x (by simp [REd.more]),trivial⟩
theorem rowsE_all {rs rs':List Rw} {e:REd} {n:Int} {p:Str→Prop} (h:rowsE rs e n = some rs') (hr:Rw.Alls p rs) (hx:∀ x ∈ e.more,x.All p):Rw.Alls p rs':=by
 unfold rowsE at h
 split at h
 ·cases h; exact chgs_all (REd.allF hx) rs _ hr
 ·split at h
  ·cases h
   refine Alls_iff.mpr fun q hq => ?_
   rcases List.mem_append.mp hq with z | z
   ·exact Alls_iff.mp hr q z
   ·exact hx q z
  ·cases h
theorem more_deps {e:REd} (h:∀ x ∈ e.more,x.dep ≤ 2):Rw.deps e.more ≤ 2:=by
 cases e with
 | cut => simp [REd.more,Rw.deps]
 | put x => have:=h x (by simp [REd.more]); simp only [REd.more,Rw.deps]; omega
 | turn x => have:=h x (by simp [REd.more]); simp only [REd.more,Rw.deps]; omega
theorem rowsE_dep {rs rs':List Rw} {e:REd} {n:Int} (h:rowsE rs e n = some rs') (hx:∀ x ∈ e.more,x.dep ≤ 2):Rw.deps rs' ≤ Rw.deps rs + 2:=by
 unfold rowsE at h
 split at h
 ·cases h
  have:=chgs_depk (k:=1) (REd.depF hx) rs n.toNat
  omega
 ·split at h
  ·cases h
   rw [deps_app]
   have:=more_deps hx
   omega
  ·cases h
section
variable {S:Sto} {P:PV→Sto→Prop} {R:Str→PV→Sto→Prop}
theorem rows_edited_wp {rs:List Rw} {e:REd} {n:Int} {D:Str} (h0:S[0]? = some tabO') (hd:Rw.deps rs < 6) (hl:(Rw.eachs rs).length ≤ 100) (ha:Rw.Alls Fair rs) (hx:∀ x ∈ e.more,x.All Fair∧x.dep ≤ 2)
  (h:∀ rs',rowsE rs e n = some rs'→∀ S',Keep [] S S'→P (.tup (Rw.pvs rs')) S') (hno:rowsE rs e n = none→∀ S',Keep [] S S'→R (Str.ofString "NoPlace") (.tup [.str D,.int n]) S') :
  wp (m_q7 [.tup (Rw.pvs rs),e.pv D n] S) P R:=by
 unfold m_q7
 rw [callS_wp]
 have hpl:∀ rs',rowsE rs e n = some rs'→Pl 16 (.tup (Rw.pvs rs')):=fun rs' q => by
  have h1:=Rw.Alls_fairs (fun _ z => z) (rowsE_all q ha fun x hm => (hx x hm).1)
  have h2:=rowsE_dep q fun x hm => (hx x hm).2
  have:=Rw.pls h1 15 (by omega)
  simpa [Pl] using this
 have lrs:=len_eachs rs
 have lm:e.more.length ≤ 1:=by cases e <;> simp [REd.more]
 simp [startE,REd.pv,-zq0,-zq1,-zq2,-zq3,-zq4,-zq5,-zq6]
 refine star_wp (by simp) (by simp [pvs_map]; omega) (fun l => rfl) ?_
 intro l S1 e1 k1 g1
 have lk1:=k1.1
 simp [-zq0,-zq1,-zq2,-zq3,-zq4,-zq5,-zq6]
 refine size_of_wp hd (by omega) ?_
 intro S2 k2
 have e2:=k2.get e1 (by simp)
 have K2:Keep [] S S2:=k1.trans k2
 have w1:(e.word = Str.ofString "put") = (e.isPut = true):=by cases e <;> simp [REd.word,REd.isPut]
 simp [w1,-zq0,-zq1,-zq2,-zq3,-zq4,-zq5,-zq6]
 have c16:rs.length ≤ 100:=by omega
 have mem2:e.isPut = true ∨ e.more.length = 1→∃ x,e.more = [x]:=fun _ => by cases e <;> simp [REd.more,REd.isPut] at *
 refine ⟨fun c1 => ⟨fun c2 => ?_,fun c2 => ⟨fun c3 => ?_,fun c3 => ?_⟩⟩,fun c1 => ?_⟩
 ·refine hno ?_ S2 K2
  unfold rowsE
  have n1:¬ (1 ≤ n∧n ≤ ((Rw.eachs rs).length:Nat)):=by split at c2 <;> omega
  have n2:¬ (e.isPut = true∧n = ((Rw.eachs rs).length:Nat) + 1):=fun z => by rw [if_pos z.1] at c2; omega
  rw [if_neg n1,if_neg n2]
 ·cases e with
  | cut => simp [REd.isPut] at c2; omega
  | turn x => simp [REd.isPut] at c2; omega
  | put x =>
   simp only [REd.isPut,if_true] at c2
   have e2':S2[l]? = some (.lst [x.pv]):=by simpa [REd.more,Rw.pvs] using e2
   simp [e2',-zq0,-zq1,-zq2,-zq3,-zq4,-zq5,-zq6]
   have:=h (rs ++ [x]) (by unfold rowsE; rw [if_neg (by omega),if_pos ⟨rfl,by omega⟩]; rfl) S2 K2
   refine ⟨by simp [pvs_map]; omega,?_⟩
   simpa [pvs_map] using this
 ·have hn1:1 ≤ n.toNat:=by omega
  have hnn:n = (n.toNat:Int):=by omega
  have hr:rowsE rs e n = some (chgs e.F rs n.toNat):=by unfold rowsE; rw [if_pos ⟨c1,by omega⟩]
  have fin:=h _ hr S2 K2
  have hp:=hpl _ hr
  cases e with
  | cut =>
   simp [REd.word,REd.isPut,-zq0,-zq1,-zq2,-zq3,-zq4,-zq5,-zq6]
   refine lamk2_wp (n:=16) rfl (K2.get h0 (by simp)) hp ?_ fin
   intro f vm
   rw [hnn]
   exact changed_wp 6 rs n.toNat S2 _ _ ⟨fun r S' _ => by unfold lamB_1; simp [REd.F,Rw.pvs],fun r => by simp [REd.F]⟩ hd (by omega) hl hn1 fun S' k => ⟨rfl,k⟩
  | put x =>
   have e2':S2[l]? = some (.lst [x.pv]):=by simpa [REd.more,Rw.pvs] using e2
   simp [REd.word,REd.isPut,-zq0,-zq1,-zq2,-zq3,-zq4,-zq5,-zq6]
   refine lamk2_wp (n:=16) rfl (K2.get h0 (by simp)) hp ?_ fin
   intro f vm
   rw [hnn]
   exact changed_wp 6 rs n.toNat S2 _ _ ⟨fun r S' kk => by have:=kk.get e2' (by simp); unfold lamB_2; simp [REd.F,Rw.pvs,this],fun r => by simp [REd.F]⟩ hd (by omega) hl hn1 fun S' k => ⟨rfl,k⟩
  | turn x =>
   have e2':S2[l]? = some (.lst [x.pv]):=by simpa [REd.more,Rw.pvs] using e2
   simp [REd.word,REd.isPut,-zq0,-zq1,-zq2,-zq3,-zq4,-zq5,-zq6]
   refine lamk2_wp (n:=16) rfl (K2.get h0 (by simp)) hp ?_ fin
   intro f vm
   rw [hnn]
   exact changed_wp 6 rs n.toNat S2 _ _ ⟨fun r S' kk => by have:=kk.get e2' (by simp); unfold lamB_0; simp [REd.F,Rw.pvs,this],fun r => by simp [REd.F]⟩ hd (by omega) hl hn1 fun S' k => ⟨rfl,k⟩
 ·refine hno ?_ S2 K2
  unfold rowsE
  rw [if_neg (by omega),if_neg (by omega)]
def Deed.wd:Deed→Str
 | .dfn _ _ _ => Str.ofString "def"
 | .drop _ => Str.ofString "drop"
 | .cut _ _ => Str.ofString "cut"
 | .put _ _ _ => Str.ofString "put"
 | .turn _ _ _ => Str.ofString "turn"
def Deed.mr:Deed→List PV
 | .dfn _ ps rs => [.tup (stL ps),.tup (Rw.pvs rs)]
 | .drop _ => []
 | .cut _ n => [.int n]
 | .put _ n x => [.int n,x.pv]
 | .turn _ n x => [.int n,x.pv]
theorem deed_pv (d:Deed):d.pv = .tup (.str d.wd :: .str d.ti :: d.mr):=by cases d <;> rfl
theorem mr_len (d:Deed):d.mr.length ≤ 2:=by cases d <;> simp [Deed.mr]
def Deed.xs:Deed→List Rw
 | .put _ _ x => [x]
 | .turn _ _ x => [x]
 | _ => []
theorem re_xs {d:Deed} {e:REd} {n:Int} (h:d.re = some (e,n)):e.more = d.xs:=by
 cases d <;> simp [Deed.re] at h <;> obtain ⟨rfl,rfl⟩:=h <;> rfl
theorem strs_ix {ds:List Df} {a b:List Df} {q:Df} {T:Str} (h:ds = a ++ q :: b) (hq:q.1 = T) (ha:T ∉ a.map (·.1)):(ds.map (·.1)).findIdx? (fun y => decide (y = T)) = some a.length:=by
 rw [h,List.map_append,List.findIdx?_append]
 have:(a.map (·.1)).findIdx? (fun y => decide (y = T)) = none:=by
  rw [List.findIdx?_eq_none_iff]
  intro x hx
  simpa using fun z:x = T => ha (z ▸ hx)
 rw [this]
 simp [List.findIdx?_cons,hq]
theorem re_eqs {d:Deed} {e:REd} {n:Int} (h:d.re = some (e,n)):d.wd = e.word∧d.mr = .int n :: Rw.pvs e.more∧e.word ≠ Str.ofString "def"∧e.word ≠ Str.ofString "drop" := by
 have q:∀ w ∈ [Str.ofString "cut",Str.ofString "put",Str.ofString "turn"],w ≠ Str.ofString "def"∧w ≠ Str.ofString "drop" := by decide
 cases d <;> simp [Deed.re] at h <;> obtain ⟨rfl,rfl⟩:=h <;> exact ⟨rfl,rfl,(q _ (by simp [REd.word])).1,(q _ (by simp [REd.word])).2⟩
theorem mulLr_wp {l:Nat} {p:PV} {n:Nat} (e:S[l]? = some (.lst [p])) (h1:n ≤ 1000) (h:∀ m S',S'[m]? = some (.lst (List.replicate n p))→Keep [] S S'→S.length ≤ m→P (.loc m) S'):wp (lift (mulLP (.loc l) (.int (n:Int)) S)) P R:=by
 have hf:(List.replicate n [p]).flatten = List.replicate n p:=by
  clear h h1
  induction n with
  | zero => rfl
  | succ n ih => simp [List.replicate_succ,ih]
 have h0:(0:Int) ≤ (n:Int):=by omega
 have h2:(n:Int) ≤ 1000:=by omega
 have ht:(n:Int).toNat = n:=by simp
 have hl:[p].length * (n:Int).toNat ≤ 16777216:=by rw [ht]; simp; omega
 unfold mulLP
 simp only [e,h0,h2,hl,and_self,if_true]
 rw [ht,hf]
 exact alloc_wp h
theorem made_wp {es:List Df} {l:Nat} (e:S[l]? = some (.lst (es.map Df.pv))) (z:Sized es∧∀ d ∈ es,∀ x ∈ d.2.1,Fair x)
  (h:dueOf es = none→∀ pl' S',PrgAt pl' es S'→Keep [] S S'→S.length ≤ pl'→P (.loc pl') S')
  (hbad:∀ w,dueOf es = some w→∀ S',Keep [] S S'→R (Str.ofString "NoProgram") w S'):wp (m_q4 [.loc S.length,.loc l] (S ++ [.ins "Program" []])) (wK (madeO S.length) P R) R :=
 make_wp e z.1 z.2 (fun hn pl n S' a1 a2 a3 a4 k => h hn pl S' ⟨n,a1,a2⟩ k a3) hbad
theorem edited_wp {ds:List Df} {pl:Nat} {dd:Deed} (h0:S[0]? = some tabO') (hp:PrgAt pl ds S) (nd:(ds.map (·.1)).Nodup) (few:ds.length ≤ 100) (hd:∀ d ∈ ds,Rw.deps d.2.2 < 6∧(Rw.eachs d.2.2).length ≤ 100∧Rw.Alls Fair d.2.2) (hx:∀ x ∈ dd.xs,x.All Fair∧x.dep ≤ 2)
  (z:∀ es,edE ds dd = some es→Sized es∧∀ d ∈ es,∀ x ∈ d.2.1,Fair x)
  (h:∀ es,edE ds dd = some es→dueOf es = none→∀ pl' S',PrgAt pl' es S'→Keep [] S S'→S.length ≤ pl'→P (.loc pl') S')
  (hbad:∀ es w,edE ds dd = some es→dueOf es = some w→∀ S',Keep [] S S'→R (Str.ofString "NoProgram") w S')
  (hno:edE ds dd = none→∀ S',Keep [] S S'→R (Str.ofString "NoPlace") dd.what S'):wp (m_q30 [.loc pl,dd.pv] S) P R:=by
 unfold m_q30
 rw [callS_wp]
 obtain ⟨dn,hp1,hp2⟩:=hp
 simp [startE,hp1,List.lookup,-zq0,-zq1,-zq2,-zq3,-zq4,-zq5,-zq6]
 refine definitions_wp ⟨dn,hp1,hp2⟩ ?_
 intro fl S1 e1 k1 g1
 have lk1:=k1.1
 have ml:=mr_len dd
 simp [deed_pv,-zq0,-zq1,-zq2,-zq3,-zq4,-zq5,-zq6]
 refine star_wp (by simp) (by simp; omega) (fun l => rfl) ?_
 intro ml S2 e2 k2 g2
 have lk2:=k2.1
 simp [k2.get e1 (by simp),-zq0,-zq1,-zq2,-zq3,-zq4,-zq5,-zq6]
 refine acc_map Df.pv (fun d => PV.str d.1) (by intro p hp; simp at hp; subst hp; exact k2.get e1 (by simp)) (by simp; omega) ?_ ?_
 ·intro d hd acc J ha hJ
  refine ⟨_,rfl,?_⟩
  simp [wipeE,stepE_wp,Df.pv,ha,-zq0,-zq1,-zq2,-zq3,-zq4,-zq5,-zq6]
  exact hJ
 refine new_wp ?_
 intro il S3 e3 k3 g3
 have lk3:=k3.1
 rw [List.nil_append] at e3
 have K3:Keep [] S S3:=(k1.trans k2).trans k3
 have e13:S3[fl]? = some (.lst (ds.map Df.pv)):=(k2.trans k3).get e1 (by simp)
 have e23:=k3.get e2 (by simp)
 have e3':S3[il]? = some (.lst ((ds.map (·.1)).map PV.str)):=by rw [e3,List.map_map]; rfl
 obtain ⟨b,hb,hin'⟩:∃ b,(b = true↔dd.ti ∈ ds.map (·.1))∧∀ S',S'[il]? = some (.lst ((ds.map (·.1)).map PV.str))→inB (.str dd.ti) (.loc il) S' = some b:=⟨decide (dd.ti ∈ ds.map (·.1)),by simp only [decide_eq_true_eq],fun S' e => inB_strs e⟩
 have hin:=hin' S3 e3'
 cases hre:dd.re with
 | some en =>
  obtain ⟨e,n⟩:=en
  obtain ⟨w1,w2,w3,w4⟩:=re_eqs hre
  have hee:=edE_re (ds:=ds) hre
  obtain ⟨_,hwh⟩:=re_pv hre
  have hxe:∀ x ∈ e.more,x.All Fair∧x.dep ≤ 2:=by rw [re_xs hre]; exact hx
  rw [w1,w2]
  rw [w2] at e23
  generalize dd.ti = T at *
  cases b with
  | false =>
   have c:T ∉ ds.map (·.1):=fun q => by have:=hb.mpr q; cases this
   simp [w3,w4,e23,e13,hin,-zq0,-zq1,-zq2,-zq3,-zq4,-zq5,-zq6]
   have:=hno (by rw [hee,find_none.mpr c]; rfl) S3 K3
   rwa [hwh] at this
  | true =>
   have c:T ∈ ds.map (·.1):=hb.mp rfl
   obtain ⟨q,hq⟩:∃ q,ds.find? (fun d => decide (d.1 = T)) = some q:=by
    cases hf:ds.find? fun d => decide (d.1 = T) with
    | none => exact absurd c (find_none.mp hf)
    | some q => exact ⟨q,rfl⟩
   obtain ⟨as,bs,hds,hqT,hnt⟩:=find_split hq
   have hI:∀ S',S'[il]? = some (.lst (ds.map fun d => PV.str d.1))→lindexP (.loc il) [.str T] S' = some (.int (as.length:Int),S'):=fun S' e => by
    rw [lindexP_loc,e]
    simp only [strsP_comp (fun d:Df => d.1) ds,Option.bind_some,strs_ix hds hqT hnt,Option.map_some]
   have hqm:q ∈ ds:=List.mem_of_find?_eq_some hq
   obtain ⟨hdq,hlq,haq⟩:=hd q hqm
   have hlen:as.length < ds.length:=by rw [hds]; simp
   have hat:atI (ds.map Df.pv) (as.length:Int) = some q.pv:=by
    obtain ⟨y,h1,h2,_⟩:=atI_nat (xs:=ds.map Df.pv) (i:=(as.length:Int)) (by omega) (by simp; omega)
    rw [h1]
    simp only [Int.toNat_natCast] at h2
    rw [← h2,hds]; simp
   simp [w3,w4,e23,e13,hin,-lindexP_loc,-zq0,-zq1,-zq2,-zq3,-zq4,-zq5,-zq6]
   rw [hI S3 e3]
   obtain ⟨t0,ps0,rs0⟩:=q
   simp only at hqT hdq hlq haq
   subst hqT
   simp [e13,hat,Df.pv,e3,-zq0,-zq1,-zq2,-zq3,-zq4,-zq5,-zq6]
   refine rows_edited_wp (e:=e) (n:=n) (D:=t0) (K3.get h0 (by simp)) hdq hlq haq hxe ?_ ?_
   ·intro rs' hrs S4 k4
    have e14:S4[fl]? = some (.lst (ds.map Df.pv)):=k4.get e13 (by simp)
    have hix:ixN ds.length (as.length:Int) = some as.length:=by
     unfold ixN
     rw [if_pos (by omega),if_pos (by omega)]; simp
    have hes:edE ds dd = some (setD t0 rs' ds):=by rw [hee,hq]; simp [hrs]
    have eset:(ds.map Df.pv).set as.length (PV.tup [PV.str t0,PV.tup (stL ps0),PV.tup (Rw.pvs rs')]) = (setD t0 rs' ds).map Df.pv:=by
     rw [hds,setD_at (T:=t0) (q:=(t0,ps0,rs0)) rfl hnt]
     simp [Df.pv]
    simp [e14,hix,-zq0,-zq1,-zq2,-zq3,-zq4,-zq5,-zq6]
    rw [eset]
    have hl4:(S4.set fl (Ob.lst ((setD t0 rs' ds).map Df.pv))).length = S4.length:=by simp
    have k5:Keep [] S (S4.set fl (Ob.lst ((setD t0 rs' ds).map Df.pv))):=by
     have:Keep [fl] S S4:=(K3.trans k4).mono (by simp)
     exact (this.trans (.set (by simp))).mono fun y hy hlt => by simp at hy; omega
    have l5:=k5.1
    rw [← hl4]
    refine made_wp (set_get e14) (z _ hes) (fun hn pl' S' a1 a2 a3 => ?_) fun w hw S' k => ?_
    ·simp [-zq0,-zq1,-zq2,-zq3,-zq4,-zq5,-zq6]
     exact h _ hes hn pl' S' a1 (k5.trans a2) (by omega)
    ·simp [-zq0,-zq1,-zq2,-zq3,-zq4,-zq5,-zq6]
     exact hbad _ w hes hw S' (k5.trans k)
   ·intro hrs S4 k4
    have:=hno (by rw [hee,hq]; simp [hrs]) S4 (K3.trans k4)
    rw [hwh] at this
    simp [-zq0,-zq1,-zq2,-zq3,-zq4,-zq5,-zq6]
    exact this
 | none =>
  cases dd with
  | dfn T ps rs =>
   simp only [Deed.ti,Deed.wd,Deed.mr] at hin hin' e23 hb ⊢
   simp [e23,e13,-zq0,-zq1,-zq2,-zq3,-zq4,-zq5,-zq6]
   refine acc_map Df.pv (fun d => Df.pv (if d.1 = T then (T,ps,rs) else d)) (by intro p hp; simp at hp; subst hp; exact e13) (by simp; omega) ?_ ?_
   ·intro d hd acc J ha hJ
    refine ⟨_,rfl,?_⟩
    by_cases c:d.1 = T
    ·simp [wipeE,stepE_wp,Df.pv,c,ha,-zq0,-zq1,-zq2,-zq3,-zq4,-zq5,-zq6]
     simpa [c,Df.pv] using hJ
    ·simp [wipeE,stepE_wp,Df.pv,c,ha,-zq0,-zq1,-zq2,-zq3,-zq4,-zq5,-zq6]
     simpa [c,Df.pv] using hJ
   refine new_wp ?_
   intro ql S4 e4 k4 g4
   have lk4:=k4.1
   rw [List.nil_append] at e4
   have i4:inB (.str T) (.loc il) S4 = some b:=hin' S4 (k4.get e3' (by simp))
   simp [-zq0,-zq1,-zq2,-zq3,-zq4,-zq5,-zq6]
   refine lst_wp (by simp) ?_
   intro rl S5 e5 k5 g5
   have lk5:=k5.1
   have i5:inB (.str T) (.loc il) S5 = some b:=hin' S5 (k5.get (k4.get e3' (by simp)) (by simp))
   simp [i5,-zq0,-zq1,-zq2,-zq3,-zq4,-zq5,-zq6]
   have hn:((if b = false then (1:Int) else 0)) = ((if b = false then 1 else 0:Nat):Int):=by split <;> rfl
   rw [hn]
   refine mulLr_wp e5 (by split <;> omega) ?_
   intro ul S6 e6 k6 g6
   have lk6:=k6.1
   simp [-zq0,-zq1,-zq2,-zq3,-zq4,-zq5,-zq6]
   refine addL_wp ((k5.trans k6).get e4 (by simp)) e6 (by simp; split <;> omega) ?_
   intro vl S7 e7 k7 g7
   have lk7:=k7.1
   have hes:edE ds (.dfn T ps rs) = some (ds.map (fun d => if d.1 = T then (T,ps,rs) else d) ++ if T ∈ ds.map (·.1) then [] else [(T,ps,rs)]):=rfl
   have e7':S7[vl]? = some (.lst ((ds.map (fun d => if d.1 = T then (T,ps,rs) else d) ++ if T ∈ ds.map (·.1) then [] else [(T,ps,rs)]).map Df.pv)):=by
    rw [e7,List.map_append,List.map_map]
    by_cases c:T ∈ ds.map (·.1)
    ·have hb1:b = true:=hb.mpr c
     subst hb1
     rw [if_pos c]; simp [Function.comp_def]
    ·have hb1:b = false:=by cases b; rfl; exact absurd (hb.mp rfl) c
     subst hb1
     rw [if_neg c]; simp [Function.comp_def,Df.pv]
   have K7:Keep [] S S7:=(((K3.trans k4).trans k5).trans k6).trans k7
   have l7:=K7.1
   simp [-zq0,-zq1,-zq2,-zq3,-zq4,-zq5,-zq6]
   refine made_wp e7' (z _ hes) (fun hn pl' S' a1 a2 a3 => ?_) fun w hw S' k => hbad _ w hes hw S' (K7.trans k)
   simp [-zq0,-zq1,-zq2,-zq3,-zq4,-zq5,-zq6]
   exact h _ hes hn pl' S' a1 (K7.trans a2) (by omega)
  | drop T =>
   simp only [Deed.ti,Deed.wd,Deed.mr] at hin hin' e23 hb ⊢
   cases b with
   | false =>
    have c:T ∉ ds.map (·.1):=fun q => by have:=hb.mpr q; cases this
    simp [e23,e13,hin,-zq0,-zq1,-zq2,-zq3,-zq4,-zq5,-zq6]
    exact hno (by show (if T ∈ ds.map (·.1) then _ else _) = none; rw [if_neg c]) S3 K3
   | true =>
    have c:T ∈ ds.map (·.1):=hb.mp rfl
    have hes:edE ds (.drop T) = some (dropD T ds):=by show (if T ∈ ds.map (·.1) then _ else _) = _; rw [if_pos c]
    simp [e23,e13,hin,-zq0,-zq1,-zq2,-zq3,-zq4,-zq5,-zq6]
    refine acc_filter Df.pv Df.pv (fun d => decide (d.1 ≠ T)) (by intro p hp; simp at hp; subst hp; exact e13) (by simp; omega) ?_ ?_
    ·intro d hd acc J ha hJ
     refine ⟨_,rfl,?_⟩
     by_cases c:d.1 = T
     ·simp [wipeE,stepE_wp,Df.pv,c,-zq0,-zq1,-zq2,-zq3,-zq4,-zq5,-zq6]
      simpa [c] using hJ
     ·simp [wipeE,stepE_wp,Df.pv,c,ha,-zq0,-zq1,-zq2,-zq3,-zq4,-zq5,-zq6]
      simpa [c,Df.pv] using hJ
    refine new_wp ?_
    intro vl S4 e4 k4 g4
    have lk4:=k4.1
    rw [List.nil_append,drop_nd nd] at e4
    have K4:=K3.trans k4
    have l4:=K4.1
    simp [-zq0,-zq1,-zq2,-zq3,-zq4,-zq5,-zq6]
    refine made_wp e4 (z _ hes) (fun hn pl' S' a1 a2 a3 => ?_) fun w hw S' k => hbad _ w hes hw S' (K4.trans k)
    simp [-zq0,-zq1,-zq2,-zq3,-zq4,-zq5,-zq6]
    exact h _ hes hn pl' S' a1 (K4.trans a2) (by omega)
  | cut T n => cases hre
  | put T n x => cases hre
  | turn T n x => cases hre
end
end K38
namespace K38
open PySem PySem.Spec PyProof.Rows L2 PL
theorem setD_mem {T:Str} {rs:List Rw} {d:Df}:∀ {ds:List Df},d ∈ setD T rs ds→d ∈ ds ∨ ∃ q ∈ ds,q.1 = T∧d = (T,q.2.1,rs)
 | [],h => nomatch h
 | q :: ds,h => by
  unfold setD at h
  split at h
  ·rename_i e
   rcases List.mem_cons.mp h with z | z
   ·exact .inr ⟨q,by simp,e,z⟩
   ·exact .inl (by simp [z])
  ·rcases List.mem_cons.mp h with z | z
   ·exact .inl (by simp [z])
   ·rcases setD_mem z with w | ⟨q',w1,w2,w3⟩
    ·exact .inl (by simp [w])
    ·exact .inr ⟨q',by simp [w1],w2,w3⟩
end K38
namespace K38
open PySem PySem.Spec PyProof.Rows L2 PL
inductive LT where
 | nil
 | one (il:Nat) (r:Rw) (rest:LT)
 | iff (il:Nat) (x:Str) (ra rb:List Rw) (a:Nat) (ta:LT) (b:Nat) (tb:LT) (rest:LT)
namespace LT
def items:LT→List PV
 | nil => []
 | one il _ t => .loc il :: t.items
 | iff il _ _ _ _ _ _ _ t => .loc il :: t.items
def rows:LT→List Rw
 | nil => []
 | one _ r t => r :: t.rows
 | iff _ x _ _ _ ta _ tb t => .iff x ta.rows tb.rows :: t.rows
def locs:LT→List Nat
 | nil => []
 | one il _ t => il :: t.locs
 | iff il _ _ _ a ta b tb t => il :: a :: b :: (ta.locs ++ tb.locs ++ t.locs)
def At (S:Sto):LT→Prop
 | nil => True
 | one il r t => S[il]? = some (.lst [r.pv])∧r.each.length = 1∧t.At S
 | iff il x ra rb a ta b tb t => S[il]? = some (.lst [(Rw.iff x ra rb).pv,.loc a,.loc b])∧S[a]? = some (.lst ta.items)∧S[b]? = some (.lst tb.items)∧ta.At S∧tb.At S∧t.At S
def sz:LT→Nat
 | nil => 0
 | one _ _ t => 1 + t.sz
 | iff _ _ _ _ _ ta _ tb t => 1 + ta.sz + tb.sz + t.sz
def spots (l:Nat):Nat→Nat→LT→List (Nat × Nat × Nat)
 | _,_,nil => []
 | i,dp,one _ _ t => (l,i,dp) :: t.spots l (i + 1) dp
 | i,dp,iff _ _ _ _ a ta b tb t => (l,i,dp) :: (ta.spots a 0 (dp + 1) ++ tb.spots b 0 (dp + 1) ++ t.spots l (i + 1) dp)
def app:LT→LT→LT
 | nil,u => u
 | one il r t,u => one il r (t.app u)
 | iff il x ra rb a ta b tb t,u => iff il x ra rb a ta b tb (t.app u)
def ch (g:LT→LT):LT→Nat→LT
 | nil,_ => nil
 | one il r t,n => if n = 1 then g (one il r t) else one il r (t.ch g (n - 1))
 | iff il x ra rb a ta b tb t,n => if n = 1 then g (iff il x ra rb a ta b tb t) else if n ≤ 1 + ta.sz then iff il x ra rb a (ta.ch g (n - 1)) b tb t
  else if n ≤ 1 + ta.sz + tb.sz then iff il x ra rb a ta b (tb.ch g (n - 1 - ta.sz)) t else iff il x ra rb a ta b tb (t.ch g (n - 1 - ta.sz - tb.sz))
theorem items_app:∀ t u:LT,(t.app u).items = t.items ++ u.items
 | nil,u => rfl
 | one il r t,u => by simp [app,items,items_app t u]
 | iff il x ra rb a ta b tb t,u => by simp [app,items,items_app t u]
theorem rows_app:∀ t u:LT,(t.app u).rows = t.rows ++ u.rows
 | nil,u => rfl
 | one il r t,u => by simp [app,rows,rows_app t u]
 | iff il x ra rb a ta b tb t,u => by simp [app,rows,rows_app t u]
theorem locs_app:∀ t u:LT,(t.app u).locs = t.locs ++ u.locs
 | nil,u => rfl
 | one il r t,u => by simp [app,locs,locs_app t u]
 | iff il x ra rb a ta b tb t,u => by simp [app,locs,locs_app t u]
theorem at_app {S:Sto}:∀ {t u:LT},(t.app u).At S↔t.At S∧u.At S
 | nil,u => by simp [app,At]
 | one il r t,u => by simp only [app,At,at_app (t:=t) (u:=u),and_assoc]
 | iff il x ra rb a ta b tb t,u => by simp only [app,At,at_app (t:=t) (u:=u),and_assoc]
theorem sz_rows:∀ {t:LT} {S:Sto},t.At S→t.sz = (Rw.eachs t.rows).length
 | nil,S,_ => rfl
 | one il r t,S,h => by
  have:=sz_rows h.2.2
  simp only [sz,rows,Rw.eachs,List.length_append,h.2.1,this]
 | iff il x ra rb a ta b tb t,S,h => by
  have h1:=sz_rows h.2.2.2.1
  have h2:=sz_rows h.2.2.2.2.1
  have h3:=sz_rows h.2.2.2.2.2
  simp only [sz,rows,Rw.eachs,Rw.each,List.length_append,List.length_cons,h1,h2,h3]; omega
theorem spots_len (l:Nat):∀ (t:LT) (i dp:Nat),(t.spots l i dp).length = t.sz
 | nil,i,dp => rfl
 | one il r t,i,dp => by simp only [spots,List.length_cons,spots_len l t,sz]; omega
 | iff il x ra rb a ta b tb t,i,dp => by
  simp only [spots,List.length_cons,List.length_append,spots_len l t,spots_len a ta,spots_len b tb,sz]; omega
theorem At.keep {M:List Nat} {S S':Sto} (k:Keep M S S'):∀ {t:LT},t.At S→(∀ x ∈ t.locs,x ∉ M)→t.At S'
 | nil,_,_ => trivial
 | one il r t,h,hM => ⟨k.get h.1 (hM il (by simp [locs])),h.2.1,At.keep k h.2.2 fun x hx => hM x (by simp [locs,hx])⟩
 | iff il x ra rb a ta b tb t,h,hM =>
  ⟨k.get h.1 (hM il (by simp [locs])),k.get h.2.1 (hM a (by simp [locs])),k.get h.2.2.1 (hM b (by simp [locs])),
   At.keep k h.2.2.2.1 fun x hx => hM x (by simp [locs,hx]),At.keep k h.2.2.2.2.1 fun x hx => hM x (by simp [locs,hx]),At.keep k h.2.2.2.2.2 fun x hx => hM x (by simp [locs,hx])⟩
theorem At.lt {S:Sto}:∀ {t:LT},t.At S→∀ x ∈ t.locs,x < S.length
 | nil,_,x,hx => by simp [locs] at hx
 | one il r t,h,x,hx => by
  simp only [locs,List.mem_cons] at hx
  rcases hx with rfl | hx
  ·exact lt_of_get h.1
  ·exact At.lt h.2.2 x hx
 | iff il y ra rb a ta b tb t,h,x,hx => by
  simp only [locs,List.mem_cons,List.mem_append] at hx
  rcases hx with rfl | rfl | rfl | (hx | hx) | hx
  ·exact lt_of_get h.1
  ·exact lt_of_get h.2.1
  ·exact lt_of_get h.2.2.1
  ·exact At.lt h.2.2.2.1 x hx
  ·exact At.lt h.2.2.2.2.1 x hx
  ·exact At.lt h.2.2.2.2.2 x hx
theorem rows_ch {g:LT→LT} {F:Rw→List Rw} {S:Sto} (hg:∀ t r rs,t.rows = r :: rs→(g t).rows = F r ++ rs):∀ (t:LT) (n:Nat),1 ≤ n→t.At S→(t.ch g n).rows = chgs F t.rows n
 | nil,n,_,_ => rfl
 | one il r t,n,h1,h => by
  simp only [ch,rows,chgs]
  by_cases h2:n = 1
  ·rw [if_pos h2,if_pos h2]
   exact hg _ r t.rows rfl
  ·rw [if_neg h2,if_neg h2,h.2.1,if_neg (by omega)]
   simp only [rows,rows_ch hg t (n - 1) (by omega) h.2.2]
 | iff il x ra rb a ta b tb t,n,h1,h => by
  have s1:=sz_rows h.2.2.2.1
  have s2:=sz_rows h.2.2.2.2.1
  simp only [ch,rows,chgs]
  have el:(Rw.iff x ta.rows tb.rows).each.length = 1 + ta.sz + tb.sz:=by simp only [Rw.each,List.length_cons,List.length_append,s1,s2]; omega
  by_cases h2:n = 1
  ·rw [if_pos h2,if_pos h2]
   exact hg _ _ t.rows rfl
  ·rw [if_neg h2,if_neg h2,el]
   by_cases h3:n ≤ 1 + ta.sz
   ·rw [if_pos h3,if_pos (by omega),chg1,if_pos (by omega)]
    simp only [rows,rows_ch hg ta (n - 1) (by omega) h.2.2.2.1]
   ·rw [if_neg h3]
    by_cases h4:n ≤ 1 + ta.sz + tb.sz
    ·rw [if_pos h4,if_pos h4,chg1,if_neg (by omega),← s1]
     simp only [rows,rows_ch hg tb (n - 1 - ta.sz) (by omega) h.2.2.2.2.1]
    ·rw [if_neg h4,if_neg h4]
     have:n - (1 + ta.sz + tb.sz) = n - 1 - ta.sz - tb.sz:=by omega
     rw [this]
     simp only [rows,rows_ch hg t (n - 1 - ta.sz - tb.sz) (by omega) h.2.2.2.2.2]
theorem items_sz:∀ t:LT,t.items.length ≤ t.sz
 | nil => Nat.le_refl _
 | one il r t => by have:=items_sz t; simp only [items,List.length_cons,sz]; omega
 | iff il x ra rb a ta b tb t => by have:=items_sz t; simp only [items,List.length_cons,sz]; omega
theorem items_rows:∀ t:LT,t.items.length = t.rows.length
 | nil => rfl
 | one il r t => by simp [items,rows,items_rows t]
 | iff il x ra rb a ta b tb t => by simp [items,rows,items_rows t]
theorem edit_at {g:LT→LT} {op:List PV→Nat→List PV} {L:List Nat} {S:Sto} (ho:∀ pre t,t ≠ nil→op (pre ++ t.items) pre.length = pre ++ (g t).items) (hg:∀ u (S':Sto) M,M ∈ L→Keep [M] S S'→u.At S'→(g u).At S') :
  ∀ (t:LT) (l:Nat) (pre:List PV) (dp n:Nat),t.At S→S[l]? = some (.lst (pre ++ t.items))→(l :: t.locs).Nodup→(∀ x ∈ l :: t.locs,x ∈ L)→1 ≤ n→n ≤ t.sz →
   ∃ l' j dq xs,(t.spots l pre.length dp)[n - 1]? = some (l',j,dq)∧S[l']? = some (.lst xs)∧j < xs.length∧xs.length ≤ pre.length + t.sz∧l' ∈ l :: t.locs ∧
    (S.set l' (.lst (op xs j)))[l]? = some (.lst (pre ++ (t.ch g n).items))∧(t.ch g n).At (S.set l' (.lst (op xs j)))
 | nil,l,pre,dp,n,_,_,_,_,h1,h2 => by simp [sz] at h2; omega
 | one il r t,l,pre,dp,n,h,hl,nd,hL,h1,h2 => by
  have nd':=List.nodup_cons.mp nd
  have nd2:=List.nodup_cons.mp nd'.2
  by_cases hn:n = 1
  ·subst hn
   refine ⟨l,pre.length,dp,pre ++ (one il r t).items,rfl,hl,by simp [items],by have:=items_sz (one il r t); rw [List.length_append]; omega,by simp,?_,?_⟩
   ·rw [set_get hl,ho pre _ (by simp)]; rfl
   ·have k:Keep [l] S (S.set l (.lst (op (pre ++ (one il r t).items) pre.length))):=.set (by simp)
    exact hg _ _ l (hL l (by simp)) k (At.keep k h fun x hx z => nd'.1 (by rw [List.mem_singleton.mp z] at hx; exact hx))
  ·have nl:(l :: t.locs).Nodup:=List.nodup_cons.mpr ⟨fun z => nd'.1 (by simp [locs,z]),nd2.2⟩
   obtain ⟨l',j,dq,xs,s1,s2,s3,s3',s4,s5,s6⟩:=edit_at ho hg t l (pre ++ [.loc il]) dp (n - 1) h.2.2 (by rw [hl]; simp [items]) nl (fun x hx => hL x (by rcases List.mem_cons.mp hx with q | q; rw [q]; simp; simp [locs,q])) (by omega) (by simp only [sz] at h2; omega)
   have hil:il ∉ [l']:=fun z => by
    rw [List.mem_singleton] at z
    subst z
    rcases List.mem_cons.mp s4 with q | q
    ·exact nd'.1 (by rw [← q]; simp [locs])
    ·exact nd2.1 q
   refine ⟨l',j,dq,xs,?_,s2,s3,by simp only [sz,List.length_append,List.length_cons,List.length_nil] at s3' ⊢; omega,?_,?_,?_⟩
   ·have:n - 1 = (n - 1 - 1) + 1:=by omega
    rw [this]
    simp only [spots,List.getElem?_cons_succ]
    simpa using s1
   ·rcases List.mem_cons.mp s4 with q | q
    ·rw [q]; simp
    ·simp [locs,q]
   ·rw [s5]
    simp only [ch,if_neg hn,items]; simp
   ·simp only [ch,if_neg hn]
    exact ⟨(Keep.set (M:=[l']) (S:=S) (by simp)).get h.1 hil,h.2.1,s6⟩
 | iff il x ra rb a ta b tb t,l,pre,dp,n,h,hl,nd,hL,h1,h2 => by
  obtain ⟨g1,g2,g3,g4,g5,g6⟩:=h
  have nd0:=nd
  simp only [locs,List.nodup_cons,List.nodup_append,List.mem_cons,List.mem_append,not_or] at nd
  obtain ⟨⟨l1,l2,l3,⟨l4,l5⟩,l6⟩,⟨i2,i3,⟨i4,i5⟩,i6⟩,⟨a3,⟨a4,a5⟩,a6⟩,⟨⟨b4,b5⟩,b6⟩,⟨nta,ntb,dab⟩,nt,dt⟩:=nd
  have la:=spots_len a ta 0 (dp + 1)
  have lb:=spots_len b tb 0 (dp + 1)
  have hLL:∀ x,x = l ∨ x = il ∨ x = a ∨ x = b ∨ x ∈ ta.locs ∨ x ∈ tb.locs ∨ x ∈ t.locs→x ∈ L:=fun y hy => hL y (by
   simp only [locs,List.mem_cons,List.mem_append]
   rcases hy with q | q | q | q | q | q | q <;> simp [q])
  by_cases hn:n = 1
  ·subst hn
   refine ⟨l,pre.length,dp,pre ++ (iff il x ra rb a ta b tb t).items,rfl,hl,by simp [items],by have:=items_sz (iff il x ra rb a ta b tb t); rw [List.length_append]; omega,by simp,?_,?_⟩
   ·rw [set_get hl,ho pre _ (by simp)]; rfl
   ·have k:Keep [l] S (S.set l (.lst (op (pre ++ (iff il x ra rb a ta b tb t).items) pre.length))):=.set (by simp)
    exact hg _ _ l (hL l (by simp)) k (At.keep k ⟨g1,g2,g3,g4,g5,g6⟩ fun y hy z => (List.nodup_cons.mp nd0).1 (by rw [List.mem_singleton.mp z] at hy; exact hy))
  ·have hsp:((iff il x ra rb a ta b tb t).spots l pre.length dp)[n - 1]? = (ta.spots a 0 (dp + 1) ++ tb.spots b 0 (dp + 1) ++ t.spots l (pre.length + 1) dp)[n - 2]?:=by
    have:n - 1 = (n - 2) + 1:=by omega
    rw [this]
    simp only [spots,List.getElem?_cons_succ]
   rw [hsp]
   by_cases h3:n ≤ 1 + ta.sz
   ·obtain ⟨l',j,dq,xs,s1,s2,s3,s3',s4,s5,s6⟩:=edit_at ho hg ta a [] (dp + 1) (n - 1) g4 (by simpa using g2) (List.nodup_cons.mpr ⟨a4,nta⟩) (fun y hy => hLL y (by rcases List.mem_cons.mp hy with q | q <;> simp [q])) (by omega) (by omega)
    have k:Keep [l'] S (S.set l' (.lst (op xs j))):=.set (by simp)
    have off:∀ y,y ≠ a→y ∉ ta.locs→y ∉ [l']:=fun y q1 q2 z => by
     rw [List.mem_singleton] at z
     subst z
     rcases List.mem_cons.mp s4 with q | q
     ·exact q1 q
     ·exact q2 q
    refine ⟨l',j,dq,xs,?_,s2,s3,by simp only [sz,List.length_append,List.length_cons,List.length_nil] at s3' ⊢; omega,?_,?_,?_⟩
    ·rw [List.append_assoc,List.getElem?_append_left (by omega)]
     exact s1
    ·rcases List.mem_cons.mp s4 with q | q <;> simp [locs,q]
    ·have:=k.get hl (off l l2 l4)
     rw [this]
     simp only [ch,if_neg hn,if_pos h3,items]
    ·simp only [ch,if_neg hn,if_pos h3]
     refine ⟨k.get g1 (off il i2 i4),by simpa using s5,k.get g3 (off b (fun z => a3 z.symm) b4),s6,At.keep k g5 fun y hy => off y (fun z => a5 (z ▸ hy)) (fun z => dab _ z _ hy rfl),At.keep k g6 fun y hy => off y (fun z => a6 (z ▸ hy)) fun z => dt _ (.inl z) _ hy rfl⟩
   ·by_cases h4:n ≤ 1 + ta.sz + tb.sz
    ·obtain ⟨l',j,dq,xs,s1,s2,s3,s3',s4,s5,s6⟩:=edit_at ho hg tb b [] (dp + 1) (n - 1 - ta.sz) g5 (by simpa using g3) (List.nodup_cons.mpr ⟨b5,ntb⟩) (fun y hy => hLL y (by rcases List.mem_cons.mp hy with q | q <;> simp [q])) (by omega) (by omega)
     have k:Keep [l'] S (S.set l' (.lst (op xs j))):=.set (by simp)
     have off:∀ y,y ≠ b→y ∉ tb.locs→y ∉ [l']:=fun y q1 q2 z => by
      rw [List.mem_singleton] at z
      subst z
      rcases List.mem_cons.mp s4 with q | q
      ·exact q1 q
      ·exact q2 q
     refine ⟨l',j,dq,xs,?_,s2,s3,by simp only [sz,List.length_append,List.length_cons,List.length_nil] at s3' ⊢; omega,?_,?_,?_⟩
     ·rw [List.append_assoc,List.getElem?_append_right (by omega),List.getElem?_append_left (by omega),la]
      have:n - 2 - ta.sz = n - 1 - ta.sz - 1:=by omega
      rw [this]
      exact s1
     ·rcases List.mem_cons.mp s4 with q | q <;> simp [locs,q]
     ·have:=k.get hl (off l l3 l5)
      rw [this]
      simp only [ch,if_neg hn,if_neg h3,if_pos h4,items]
     ·simp only [ch,if_neg hn,if_neg h3,if_pos h4]
      refine ⟨k.get g1 (off il i3 i5),k.get g2 (off a a3 a5),by simpa using s5,At.keep k g4 fun y hy => off y (fun z => b4 (z ▸ hy)) (fun z => dab _ hy _ z rfl),s6,At.keep k g6 fun y hy => off y (fun z => b6 (z ▸ hy)) fun z => dt _ (.inr z) _ hy rfl⟩
    ·obtain ⟨l',j,dq,xs,s1,s2,s3,s3',s4,s5,s6⟩:=edit_at ho hg t l (pre ++ [.loc il]) dp (n - 1 - ta.sz - tb.sz) g6 (by rw [hl]; simp [items]) (List.nodup_cons.mpr ⟨l6,nt⟩) (fun y hy => hLL y (by rcases List.mem_cons.mp hy with q | q <;> simp [q])) (by omega) (by simp only [sz] at h2; omega)
     have k:Keep [l'] S (S.set l' (.lst (op xs j))):=.set (by simp)
     have off:∀ y,y ≠ l→y ∉ t.locs→y ∉ [l']:=fun y q1 q2 z => by
      rw [List.mem_singleton] at z
      subst z
      rcases List.mem_cons.mp s4 with q | q
      ·exact q1 q
      ·exact q2 q
     refine ⟨l',j,dq,xs,?_,s2,s3,by simp only [sz,List.length_append,List.length_cons,List.length_nil] at s3' ⊢; omega,?_,?_,?_⟩
     ·rw [List.getElem?_append_right (by rw [List.length_append]; omega),List.length_append,la,lb]
      have:n - 2 - (ta.sz + tb.sz) = n - 1 - ta.sz - tb.sz - 1:=by omega
      rw [this]
      simpa using s1
     ·rcases List.mem_cons.mp s4 with q | q <;> simp [locs,q]
     ·rw [s5]
      simp only [ch,if_neg hn,if_neg h3,if_neg h4,items]; simp
     ·simp only [ch,if_neg hn,if_neg h3,if_neg h4]
      refine ⟨k.get g1 (off il (fun z => l1 z.symm) i6),k.get g2 (off a (fun z => l2 z.symm) a6),k.get g3 (off b (fun z => l3 z.symm) b6),At.keep k g4 fun y hy => off y (fun z => l4 (z ▸ hy)) (fun z => dt _ (.inl hy) _ z rfl),At.keep k g5 fun y hy => off y (fun z => l5 (z ▸ hy)) (fun z => dt _ (.inr hy) _ z rfl),s6⟩
theorem spots_app (l:Nat):∀ (u v:LT) (i dp:Nat),(u.app v).spots l i dp = u.spots l i dp ++ v.spots l (i + u.items.length) dp
 | nil,v,i,dp => rfl
 | one il r t,v,i,dp => by
  simp only [app,spots,spots_app l t,items,List.length_cons,List.cons_append]
  rw [show i + 1 + t.items.length = i + (t.items.length + 1) by omega]
 | iff il x ra rb a ta b tb t,v,i,dp => by
  simp only [app,spots,spots_app l t,items,List.length_cons,List.cons_append,List.append_assoc]
  rw [show i + 1 + t.items.length = i + (t.items.length + 1) by omega]
theorem sz_app:∀ u v:LT,(u.app v).sz = u.sz + v.sz
 | nil,v => by simp [app,sz]
 | one il r t,v => by simp only [app,sz,sz_app t]; omega
 | iff il x ra rb a ta b tb t,v => by simp only [app,sz,sz_app t]; omega
theorem app_assoc:∀ t u v:LT,(t.app u).app v = t.app (u.app v)
 | nil,u,v => rfl
 | one il r t,u,v => by simp only [app,app_assoc t]
 | iff il x ra rb a ta b tb t,u,v => by simp only [app,app_assoc t]
structure Fst (S:Sto) (v:LT) (il:Nat) (p:PV) (subs:List (Nat × LT)) (v1 w:LT):Prop where
 eq:v = v1.app w
 it:v1.items = [.loc il]
 ob:S[il]? = some (.lst (p :: subs.map fun q => PV.loc q.1))
 few:subs.length ≤ 2
 sz:v.sz = 1 + (subs.map fun q => q.2.sz).sum + w.sz
 sp:∀ l i dp,v1.spots l i dp = (l,i,dp) :: subs.flatMap fun q => q.2.spots q.1 0 (dp + 1)
 sub:∀ q ∈ subs,S[q.1]? = some (.lst q.2.items)∧q.2.At S∧Rw.deps q.2.rows + 1 ≤ Rw.deps v.rows∧q.2.sz ≤ v.sz
theorem fst_of {S:Sto}:∀ {v:LT},v.At S→v.items ≠ []→∃ il p subs v1 w,Fst S v il p subs v1 w
 | nil,_,h => absurd rfl h
 | one il r t,h,_ => ⟨il,r.pv,[],one il r nil,t,rfl,rfl,h.1,by simp,by simp [LT.sz],fun l i dp => by simp [spots],by simp⟩
 | iff il x ra rb a ta b tb t,h,_ => by
  refine ⟨il,_,[(a,ta),(b,tb)],iff il x ra rb a ta b tb nil,t,rfl,rfl,h.1,by simp,by simp [LT.sz]; omega,fun l i dp => by simp [spots],?_⟩
  intro q hq
  simp only [List.mem_cons,List.not_mem_nil,or_false] at hq
  rcases hq with rfl | rfl
  ·exact ⟨h.2.1,h.2.2.2.1,by simp only [rows,Rw.deps,Rw.dep]; omega,by simp only [LT.sz]; omega⟩
  ·exact ⟨h.2.2.1,h.2.2.2.2.1,by simp only [rows,Rw.deps,Rw.dep]; omega,by simp only [LT.sz]; omega⟩
theorem subs_len {dp:Nat}:∀ subs:List (Nat × LT),(subs.flatMap fun q => q.2.spots q.1 0 (dp + 1)).length = (subs.map fun q => q.2.sz).sum
 | [] => rfl
 | q :: subs => by simp only [List.flatMap_cons,List.length_append,spots_len,subs_len subs,List.map_cons,List.sum_cons]
end LT
end K38
namespace K38
open PySem PySem.Spec PyProof.Rows L2 PL
section
variable {ns ns':List Str} {hs hs':List Hd}
mutual
theorem ok_mono (hn:∀ x ∈ ns,x ∈ ns'):∀ r:Rw,r.ok ns hs→(∀ h ∈ hs,(∃ z xs,Rw.set z (.call h.1 xs) ∈ r.each)→h ∈ hs')→r.ok ns' hs'
 | .set x v,h,hc => by
  refine ⟨hn x h.1,?_⟩
  cases v with
  | num i => trivial
  | copy y => exact hn y h.2
  | add y z => exact ⟨hn y h.2.1,hn z h.2.2⟩
  | read => trivial
  | clean y => exact hn y h.2
  | call f xs =>
   obtain ⟨h1,ps,h2,h3⟩:=h.2
   exact ⟨fun y hy => hn y (h1 y hy),ps,hc (f,ps) h2 ⟨x,xs,by simp [Rw.each]⟩,h3⟩
 | .iff x a b,h,hc => ⟨hn x h.1,oks_mono hn a h.2.1 fun q hq z => hc q hq (by obtain ⟨u,v,w⟩:=z; exact ⟨u,v,by simp [Rw.each,w]⟩),oks_mono hn b h.2.2 fun q hq z => hc q hq (by obtain ⟨u,v,w⟩:=z; exact ⟨u,v,by simp [Rw.each,w]⟩)⟩
 | .send x,h,_ => hn x h
 | .give x,h,_ => hn x h
theorem oks_mono (hn:∀ x ∈ ns,x ∈ ns'):∀ rs:List Rw,Rw.oks ns hs rs→(∀ h ∈ hs,(∃ z xs,Rw.set z (.call h.1 xs) ∈ Rw.eachs rs)→h ∈ hs')→Rw.oks ns' hs' rs
 | [],_,_ => trivial
 | r :: rs,h,hc => ⟨ok_mono hn r h.1 fun q hq z => hc q hq (by obtain ⟨u,v,w⟩:=z; exact ⟨u,v,by simp [Rw.eachs,w]⟩),oks_mono hn rs h.2 fun q hq z => hc q hq (by obtain ⟨u,v,w⟩:=z; exact ⟨u,v,by simp [Rw.eachs,w]⟩)⟩
end
theorem oks_iff:∀ {rs:List Rw},Rw.oks ns hs rs↔∀ r ∈ rs,r.ok ns hs
 | [] => by simp [Rw.oks]
 | r :: rs => by simp [Rw.oks,oks_iff (rs:=rs)]
end
theorem deps_iff {k:Nat}:∀ {rs:List Rw},Rw.deps rs ≤ k↔∀ r ∈ rs,r.dep ≤ k
 | [] => by simp [Rw.deps]
 | r :: rs => by
  simp only [Rw.deps,List.mem_cons,forall_eq_or_imp,← deps_iff (rs:=rs)]
  omega
theorem eachs_rev:∀ rs:List Rw,(Rw.eachs rs.reverse).length = (Rw.eachs rs).length
 | [] => rfl
 | r :: rs => by
  rw [List.reverse_cons,eachs_app,List.length_append,eachs_rev rs]
  simp [Rw.eachs]; omega
theorem eachs_drop:∀ (k:Nat) (rs:List Rw),(Rw.eachs (rs.drop k)).length ≤ (Rw.eachs rs).length
 | 0,rs => by simp
 | k + 1,[] => by simp
 | k + 1,r :: rs => by
  have:=eachs_drop k rs
  simp [Rw.eachs]; omega
theorem spot_deps {F:Rw→List Rw} {K:Nat} {S:Sto} (hF:∀ r,Rw.deps (F r) ≤ max r.dep K):∀ (t:LT) (l i dp n:Nat) (sp:Nat × Nat × Nat),t.At S→1 ≤ n→(t.spots l i dp)[n - 1]? = some sp→∃ δ,sp.2.2 = dp + δ∧δ + 1 ≤ Rw.deps t.rows∧Rw.deps (chgs F t.rows n) ≤ max (Rw.deps t.rows) (δ + K)
 | .nil,l,i,dp,n,sp,h,h1,hs => by simp [LT.spots] at hs
 | .one il r t,l,i,dp,n,sp,h,h1,hs => by
  have hl:=h.2.1
  have dpos:=Rw.dep_pos r
  simp only [LT.rows,chgs]
  by_cases h2:n = 1
  ·subst h2
   simp [LT.spots] at hs
   subst hs
   have:=hF r
   exact ⟨0,rfl,by simp only [Rw.deps,Rw.dep]; omega,by simp only [if_true,deps_app,Rw.deps]; omega⟩
  ·rw [if_neg h2,if_neg (by omega),hl]
   obtain ⟨m,rfl⟩:∃ m,n = m + 2:=⟨n - 2,by omega⟩
   have hs':(t.spots l (i + 1) dp)[m + 1 - 1]? = some sp:=by simpa [LT.spots] using hs
   obtain ⟨δ,e1,e0,e2⟩:=spot_deps hF t l (i + 1) dp (m + 1) sp h.2.2 (by omega) hs'
   refine ⟨δ,e1,by simp only [Rw.deps,Rw.dep]; omega,?_⟩
   rw [show m + 2 - 1 = m + 1 by omega]
   simp only [Rw.deps]; omega
 | .iff il x ra rb a ta b tb t,l,i,dp,n,sp,h,h1,hs => by
  have s1:=LT.sz_rows h.2.2.2.1
  have s2:=LT.sz_rows h.2.2.2.2.1
  have el:(Rw.iff x ta.rows tb.rows).each.length = 1 + ta.sz + tb.sz:=by simp only [Rw.each,List.length_cons,List.length_append,s1,s2]; omega
  simp only [LT.rows,chgs]
  by_cases h2:n = 1
  ·subst h2
   simp [LT.spots] at hs
   subst hs
   have:=hF (.iff x ta.rows tb.rows)
   exact ⟨0,rfl,by simp only [Rw.deps,Rw.dep]; omega,by simp only [if_true,deps_app,Rw.deps]; omega⟩
  ·rw [if_neg h2,el]
   obtain ⟨m,rfl⟩:∃ m,n = m + 2:=⟨n - 2,by omega⟩
   simp only [LT.spots,show m + 2 - 1 = m + 1 by omega,List.getElem?_cons_succ] at hs
   by_cases c1:m < ta.sz
   ·rw [List.append_assoc,List.getElem?_append_left (by rw [LT.spots_len]; exact c1)] at hs
    obtain ⟨δ,e1,e0,e2⟩:=spot_deps hF ta a 0 (dp + 1) (m + 1) sp h.2.2.2.1 (by omega) hs
    refine ⟨δ + 1,by omega,by simp only [Rw.deps,Rw.dep]; omega,?_⟩
    rw [if_pos (by omega),chg1,← s1,if_pos (by omega),show m + 2 - 1 = m + 1 by omega]
    simp only [Rw.deps,Rw.dep]; omega
   ·by_cases c2:m < ta.sz + tb.sz
    ·rw [List.append_assoc,List.getElem?_append_right (by rw [LT.spots_len]; omega),List.getElem?_append_left (by rw [LT.spots_len,LT.spots_len]; omega),LT.spots_len] at hs
     obtain ⟨δ,e1,e0,e2⟩:=spot_deps hF tb b 0 (dp + 1) (m - ta.sz + 1) sp h.2.2.2.2.1 (by omega) hs
     refine ⟨δ + 1,by omega,by simp only [Rw.deps,Rw.dep]; omega,?_⟩
     rw [if_pos (by omega),chg1,← s1,if_neg (by omega),show m + 2 - 1 - ta.sz = m - ta.sz + 1 by omega]
     simp only [Rw.deps,Rw.dep]; omega
    ·rw [List.getElem?_append_right (by rw [List.length_append,LT.spots_len,LT.spots_len]; omega),List.length_append,LT.spots_len,LT.spots_len] at hs
     obtain ⟨δ,e1,e0,e2⟩:=spot_deps hF t l (i + 1) dp (m - (ta.sz + tb.sz) + 1) sp h.2.2.2.2.2 (by omega) hs
     refine ⟨δ,e1,by simp only [Rw.deps,Rw.dep]; omega,?_⟩
     rw [if_neg (by omega),show m + 2 - (1 + ta.sz + tb.sz) = m - (ta.sz + tb.sz) + 1 by omega]
     simp only [Rw.deps]; omega
def Gd (ds:List Df) (dd:Deed):Prop:=(∃ es,edE ds dd = some es∧Prg es∧∀ d ∈ es,(Rw.eachs d.2.2).length ≤ 30)∧∀ x ∈ dd.xs,x.All Fair∧x.dep ≤ 2∧x.each.length ≤ 4
theorem prg_of {ds es:List Df} (p:Prg ds) (hh:es.map Df.hd = ds.map Df.hd) (h:∀ d ∈ es,d ∈ ds ∨ (∃ ns:List Str,(∀ x ∈ ns,Nm x)∧Rw.oks ns (ds.map Df.hd) d.2.2)∧Rw.deps d.2.2 ≤ 4∧(Rw.eachs d.2.2).length ≤ 30) (hc:∀ d ∈ ds,(Rw.eachs d.2.2).length ≤ 30):Prg es∧∀ d ∈ es,(Rw.eachs d.2.2).length ≤ 30:=by
 have c:∀ d ∈ es,(Rw.eachs d.2.2).length ≤ 30:=fun d hd => by
  rcases h d hd with z | z
  ·exact hc d z
  ·exact z.2.2
 refine ⟨⟨hh ▸ p.hd,fun d hd => ?_,fun d hd => ?_,fun d hd => by have:=c d hd; omega⟩,c⟩
 ·rw [hh]
  rcases h d hd with z | z
  ·exact p.ok d z
  ·exact z.1
 ·rcases h d hd with z | z
  ·exact p.dep d z
  ·exact z.2.1
theorem nd_hd {ds:List Df} (p:Prg ds) {d e:Df} (hd:d ∈ ds) (he:e ∈ ds) (h:d.1 = e.1):d.hd = e.hd:=by
 have:=p.hd.nd
 rw [List.map_map] at this
 have inj:∀ {l:List Df},(l.map ((·.1) ∘ Df.hd)).Nodup→d ∈ l→e ∈ l→d = e:=by
  intro l
  induction l with
  | nil => intro _ h; cases h
  | cons x l ih =>
   intro nd h1 h2
   rw [List.map_cons,List.nodup_cons] at nd
   rcases List.mem_cons.mp h1 with c1 | c1
   ·rcases List.mem_cons.mp h2 with c2 | c2
    ·rw [c1,c2]
    ·subst c1
     exact absurd (List.mem_map.mpr ⟨e,c2,h.symm⟩) nd.1
   ·rcases List.mem_cons.mp h2 with c2 | c2
    ·subst c2
     exact absurd (List.mem_map.mpr ⟨d,c1,h⟩) nd.1
    ·exact ih nd.2 c1 c2
 rw [inj this hd he]
theorem gd_same {ds:List Df} {q:Df} {k:Nat} (p:Prg ds) (hc:∀ d ∈ ds,(Rw.eachs d.2.2).length ≤ 30) (hq:q ∈ ds):Gd ds (.dfn q.1 q.2.1 (q.2.2.drop k).reverse):=by
 refine ⟨⟨_,rfl,?_⟩,by simp [Deed.xs]⟩
 have hm:q.1 ∈ ds.map (·.1):=List.mem_map_of_mem hq
 rw [if_pos hm,List.append_nil]
 refine prg_of p ?_ ?_ hc
 ·rw [List.map_map]
  refine List.map_congr_left fun d hd => ?_
  simp only [Function.comp]
  split
  ·rename_i e
   exact (nd_hd p hd hq e).symm
  ·rfl
 ·intro d hd
  obtain ⟨e,he,rfl⟩:=List.mem_map.mp hd
  by_cases c:e.1 = q.1
  ·rw [if_pos c]
   right
   obtain ⟨ns,h1,h2⟩:=p.ok q hq
   refine ⟨⟨ns,h1,oks_iff.mpr fun r hr => oks_iff.mp h2 r (List.mem_of_mem_drop (List.mem_reverse.mp hr))⟩,?_,?_⟩
   ·exact deps_iff.mpr fun r hr => deps_iff.mp (p.dep q hq) r (List.mem_of_mem_drop (List.mem_reverse.mp hr))
   ·show (Rw.eachs (q.2.2.drop k).reverse).length ≤ 30
    rw [eachs_rev]
    exact Nat.le_trans (eachs_drop _ _) (hc q hq)
  ·rw [if_neg c]; exact .inl he
theorem gd_fresh {ds:List Df} {T:Str} {ps ns:List Str} {rs:List Rw} (p:Prg ds) (hc:∀ d ∈ ds,(Rw.eachs d.2.2).length ≤ 30) (hl:ds.length < 6) (hT:Nm T) (hn:T ∉ ds.map (·.1)) (pd:ps.Nodup) (pn:∀ x ∈ ps,Nm x) (pl:ps.length ≤ 4)
  (hns:∀ x ∈ ns,Nm x) (ok:Rw.oks ns (ds.map Df.hd) rs) (dep:Rw.deps rs ≤ 4) (cnt:(Rw.eachs rs).length ≤ 30):Gd ds (.dfn T ps rs):=by
 refine ⟨⟨_,rfl,?_⟩,by simp [Deed.xs]⟩
 have e:ds.map (fun d => if d.1 = T then (T,ps,rs) else d) = ds:=by
  have:ds.map (fun d => if d.1 = T then (T,ps,rs) else d) = ds.map id:=List.map_congr_left fun d hd => by
   have:d.1 ≠ T:=fun z => hn (z ▸ List.mem_map_of_mem hd)
   simp [this]
  rw [this,List.map_id]
 rw [if_neg hn,e]
 have mem:∀ d ∈ ds ++ [(T,ps,rs)],d ∈ ds ∨ d = (T,ps,rs):=fun d hd => by simpa using hd
 have c:∀ d ∈ ds ++ [(T,ps,rs)],(Rw.eachs d.2.2).length ≤ 30:=fun d hd => by
  rcases mem d hd with z | rfl
  ·exact hc d z
  ·exact cnt
 have hh:(ds ++ [(T,ps,rs)]).map Df.hd = ds.map Df.hd ++ [(T,ps)]:=by simp [Df.hd]
 have hmem:∀ h ∈ ds.map Df.hd ++ [((T,ps):Hd)],h ∈ ds.map Df.hd ∨ h = (T,ps):=fun h hm => by
  rcases List.mem_append.mp hm with z | z
  ·exact .inl z
  ·exact .inr (List.mem_singleton.mp z)
 refine ⟨⟨?_,fun d hd => ?_,fun d hd => ?_,fun d hd => by have:=c d hd; omega⟩,c⟩
 ·rw [hh]
  have q:=p.hd
  refine ⟨?_,fun h hm => ?_,fun h hm => ?_,fun h hm => ?_,fun h hm => ?_,List.mem_append_left _ q.main,by simp; omega⟩
  ·rw [List.map_append,List.nodup_append]
   refine ⟨q.nd,by simp,fun a ha b hb => ?_⟩
   simp at hb
   subst hb
   rintro rfl
   rw [List.map_map] at ha
   exact hn ha
  ·rcases hmem h hm with z | rfl
   ·exact q.nm h z
   ·exact hT
  ·rcases hmem h hm with z | rfl
   ·exact q.pd h z
   ·exact pd
  ·rcases hmem h hm with z | rfl
   ·exact q.pn h z
   ·exact pn
  ·rcases hmem h hm with z | rfl
   ·exact q.pl h z
   ·exact pl
 ·rw [hh]
  rcases mem d hd with z | rfl
  ·obtain ⟨ns1,h1,h2⟩:=p.ok d z
   exact ⟨ns1,h1,oks_mono (fun _ h => h) _ h2 fun h hm _ => List.mem_append_left _ hm⟩
  ·exact ⟨ns,hns,oks_mono (fun _ h => h) _ ok fun h hm _ => List.mem_append_left _ hm⟩
 ·rcases mem d hd with z | rfl
  ·exact p.dep d z
  ·exact dep
theorem dropD_sublist {T:Str}:∀ ds:List Df,(dropD T ds).Sublist ds
 | [] => .slnil
 | d :: ds => by
  unfold dropD
  split
  ·exact List.sublist_cons_self d ds
  ·exact (dropD_sublist ds).cons₂ d
theorem dropD_keep {T:Str} {d:Df}:∀ {ds:List Df},d ∈ ds→d.1 ≠ T→d ∈ dropD T ds
 | [],h,_ => nomatch h
 | q :: ds,h,hn => by
  unfold dropD
  split
  ·rename_i e
   rcases List.mem_cons.mp h with rfl | h
   ·exact absurd e hn
   ·exact h
  ·rcases List.mem_cons.mp h with rfl | h
   ·simp
   ·exact List.mem_cons_of_mem _ (dropD_keep h hn)
theorem gd_drop {ds:List Df} {q:Df} (p:Prg ds) (hc:∀ d ∈ ds,(Rw.eachs d.2.2).length ≤ 30) (hq:q ∈ ds) (hm:q.1 ≠ Str.ofString "main") (hcall:∀ d ∈ ds,∀ z xs,Rw.set z (.call q.1 xs) ∉ Rw.eachs d.2.2):Gd ds (.drop q.1):=by
 have hin:q.1 ∈ ds.map (·.1):=List.mem_map_of_mem hq
 have sub:=dropD_sublist (T:=q.1) ds
 have mem:∀ d ∈ dropD q.1 ds,d ∈ ds:=fun d hd => sub.subset hd
 have hsub:=sub.map Df.hd
 refine ⟨⟨dropD q.1 ds,by simp only [edE]; rw [if_pos hin],⟨?_,fun d hd => ?_,fun d hd => p.dep d (mem d hd),fun d hd => p.cnt d (mem d hd)⟩,fun d hd => hc d (mem d hd)⟩,by simp [Deed.xs]⟩
 ·have r:=p.hd
  have hsl:=hsub.length_le
  refine ⟨(hsub.map _).nodup r.nd,fun h hm => r.nm h (hsub.subset hm),fun h hm => r.pd h (hsub.subset hm),fun h hm => r.pn h (hsub.subset hm),fun h hm => r.pl h (hsub.subset hm),?_,by have:=r.len; omega⟩
  obtain ⟨d,hd,e⟩:=List.mem_map.mp r.main
  refine List.mem_map.mpr ⟨d,dropD_keep hd ?_,e⟩
  have:d.1 = Str.ofString "main" := congrArg Prod.fst e
  rw [this]; exact fun z => hm z.symm
 ·obtain ⟨ns,h1,h2⟩:=p.ok d (mem d hd)
  refine ⟨ns,h1,oks_mono (fun _ h => h) _ h2 fun h hh hz => ?_⟩
  obtain ⟨z,xs,hz⟩:=hz
  obtain ⟨e,he,rfl⟩:=List.mem_map.mp hh
  refine List.mem_map.mpr ⟨e,dropD_keep he fun c => ?_,rfl⟩
  exact hcall d (mem d hd) z xs (by rw [← c]; exact hz)
theorem find_mem {T:Str} {q:Df}:∀ {ds:List Df},(ds.map (·.1)).Nodup→q ∈ ds→q.1 = T→ds.find? (fun d => decide (d.1 = T)) = some q
 | [],_,h,_ => nomatch h
 | d :: ds,nd,h,e => by
  rw [List.map_cons,List.nodup_cons] at nd
  rw [List.find?_cons]
  rcases List.mem_cons.mp h with rfl | h
  ·simp [e]
  ·have:d.1 ≠ T:=fun z => nd.1 (by rw [z,← e]; exact List.mem_map_of_mem h)
   simp only [this,decide_false]
   exact find_mem nd.2 h e
theorem setD_hd {T:Str} {rs:List Rw}:∀ ds:List Df,(setD T rs ds).map Df.hd = ds.map Df.hd
 | [] => rfl
 | d :: ds => by
  unfold setD
  split
  ·rename_i e
   simp [Df.hd,e]
  ·rw [List.map_cons,List.map_cons,setD_hd ds]
theorem gd_row {ds:List Df} {dd:Deed} {e:REd} {n:Int} {q:Df} {ns:List Str} {rs':List Rw} (p:Prg ds) (hc:∀ d ∈ ds,(Rw.eachs d.2.2).length ≤ 30) (hre:dd.re = some (e,n)) (hq:q ∈ ds) (hT:q.1 = dd.ti) (hns:∀ x ∈ ns,Nm x)
  (hx:∀ x ∈ e.more,x.ok ns (ds.map Df.hd)∧x.dep ≤ 2∧x.each.length ≤ 4) (hr:rowsE q.2.2 e n = some rs') (cnt:e.more = [] ∨ (Rw.eachs q.2.2).length ≤ 24) (dep:Rw.deps rs' ≤ 4):Gd ds dd:=by
 have hnmH:∀ h ∈ ds.map Df.hd,Nm h.1:=p.hd.nm
 refine ⟨⟨setD dd.ti rs' ds,?_,?_⟩,?_⟩
 ·rw [edE_re hre,find_mem p.nd hq hT]
  simp [hr]
 ·obtain ⟨ns0,n1,n2⟩:=p.ok q hq
  have hF:∀ r,r.ok (ns0 ++ ns) (ds.map Df.hd)→Rw.oks (ns0 ++ ns) (ds.map Df.hd) (e.F r):=fun r hrr => by
   have hm:∀ x ∈ e.more,x.ok (ns0 ++ ns) (ds.map Df.hd):=fun x h => ok_mono (fun y hy => List.mem_append_right _ hy) x (hx x h).1 fun _ h _ => h
   cases e with
   | cut => trivial
   | put x => exact ⟨hm x (by simp [REd.more]),hrr,trivial⟩
   | turn x => exact ⟨hm x (by simp [REd.more]),trivial⟩
  have q2:Rw.oks (ns0 ++ ns) (ds.map Df.hd) q.2.2:=oks_mono (fun y hy => List.mem_append_left _ hy) _ n2 fun _ h _ => h
  have okr:Rw.oks (ns0 ++ ns) (ds.map Df.hd) rs'∧(Rw.eachs rs').length ≤ 30:=by
   have hcq:=hc q hq
   have hL0:e.more = []→∀ r,(Rw.eachs (e.F r)).length ≤ r.each.length + 0:=fun h r => by
    cases e with
    | cut => simp [REd.F,Rw.eachs]
    | put x => simp [REd.more] at h
    | turn x => simp [REd.more] at h
   have hL:∀ r,(Rw.eachs (e.F r)).length ≤ r.each.length + 4:=fun r => by
    have hp:=Rw.each_pos r
    cases e with
    | cut => simp [REd.F,Rw.eachs]
    | put x => have:=(hx x (by simp [REd.more])).2.2; simp only [REd.F,Rw.eachs,List.length_append,List.length_nil]; omega
    | turn x => have:=(hx x (by simp [REd.more])).2.2; simp only [REd.F,Rw.eachs,List.length_append,List.length_nil]; omega
   unfold rowsE at hr
   split at hr
   ·cases hr
    refine ⟨chgs_oks hF _ _ q2,?_⟩
    rcases cnt with z | z
    ·have:=chgs_few (hL0 z) q.2.2 n.toNat; omega
    ·have:=chgs_few hL q.2.2 n.toNat; omega
   ·split at hr
    ·rename_i hb
     cases hr
     have hm:Rw.oks (ns0 ++ ns) (ds.map Df.hd) e.more∧(Rw.eachs e.more).length ≤ 4:=by
      cases e with
      | cut => exact ⟨trivial,by simp [REd.more,Rw.eachs]⟩
      | put x => exact ⟨⟨ok_mono (fun y hy => List.mem_append_right _ hy) x (hx x (by simp [REd.more])).1 fun _ h _ => h,trivial⟩,by have:=(hx x (by simp [REd.more])).2.2; simp only [REd.more,Rw.eachs,List.length_append,List.length_nil]; omega⟩
      | turn x => exact ⟨⟨ok_mono (fun y hy => List.mem_append_right _ hy) x (hx x (by simp [REd.more])).1 fun _ h _ => h,trivial⟩,by have:=(hx x (by simp [REd.more])).2.2; simp only [REd.more,Rw.eachs,List.length_append,List.length_nil]; omega⟩
     refine ⟨oks_app.mpr ⟨q2,hm.1⟩,?_⟩
     rw [eachs_app,List.length_append]
     rcases cnt with z | z
     ·rw [z]; simp [Rw.eachs]; omega
     ·omega
    ·cases hr
  refine prg_of p (setD_hd ds) (fun d hd => ?_) hc
  rcases setD_mem hd with z | ⟨q',z,_,rfl⟩
  ·exact .inl z
  ·exact .inr ⟨⟨ns0 ++ ns,fun x h => by
    rcases List.mem_append.mp h with z | z
    ·exact n1 x z
    ·exact hns x z,okr.1⟩,dep,okr.2⟩
 ·rw [← re_xs hre]
  intro x h
  obtain ⟨h1,h2,h3⟩:=hx x h
  exact ⟨Rw.All_of (fun y hy => (hns y hy).fair) (fun y hy => (hnmH y hy).fair) h1,h2,h3⟩
end K38
namespace K38
open PySem PySem.Spec PyProof.Rows L2 PL
theorem pair_nd {a b:List Nat} (h1:a.Nodup) (h2:b.Nodup) {n:Nat} (l1:∀ x ∈ a,x < n) (l2:∀ x ∈ b,n ≤ x):(a ++ b).Nodup :=
 List.nodup_append.mpr ⟨h1,h2,fun x hx y hy e => by have:=l1 x hx; have:=l2 y hy; omega⟩
theorem loose_wp:∀ (d:Nat) (rs:List Rw) (S:Sto) (P:PV→Sto→Prop) (R:Str→PV→Sto→Prop),Rw.deps rs < d→(Rw.eachs rs).length ≤ 1000 →
  (∀ l t S',S'[l]? = some (.lst t.items)→LT.At S' t→t.rows = rs→(l :: t.locs).Nodup→(∀ x ∈ l :: t.locs,S.length ≤ x)→Keep [] S S'→P (.loc l) S')→wp (m_q9 d [.tup (Rw.pvs rs)] S) P R
 | 0,_,_,_,_,h,_,_ => by omega
 | d + 1,rs,S,P,R,hd,hl,h => by
  unfold m_q9
  rw [callS_wp]
  simp [startE,-zq0,-zq1,-zq2,-zq3,-zq4,-zq5,-zq6]
  rw [pvs_map]
  have lrs:=len_eachs rs
  refine accM_wp Rw.pv (fun dn acc S' => ∃ t:LT,acc = t.items∧t.At S'∧t.rows = dn∧t.locs.Nodup∧(∀ x ∈ t.locs,S.length ≤ x)∧t.items.length = dn.length∧Keep [] S S') ⟨.nil,rfl,trivial,rfl,by simp [LT.locs],by simp [LT.locs],rfl,.refl⟩ ?_ ?_
  ·rintro dn r rest acc S1 J eq ⟨t,rfl,ta,tr,tn,tl,tc,k1⟩ hJ
   have hdr:r.dep < d + 1:=by
    rw [eq,deps_app] at hd
    simp [Rw.deps] at hd; omega
   have her:r.each.length ≤ 1000:=by
    rw [eq,eachs_app] at hl
    simp [Rw.eachs] at hl; omega
   have hdn:dn.length < 1000:=by
    have:=congrArg List.length eq
    simp at this; omega
   have k1l:=k1.1
   have plain:∀ q:Rw,q.each.length = 1→q = r→∀ (n:Nat) S2,S2[n]? = some (.lst [q.pv])→Keep [] S1 S2→S1.length ≤ n→J (t.items ++ [.loc n]) S2:=by
    intro q hq hqr n S2 e2 k2 g2
    subst hqr
    refine hJ _ _ ⟨t.app (.one n q .nil),by simp [LT.items_app,LT.items],LT.at_app.mpr ⟨ta.keep k2 (by simp),e2,hq,trivial⟩,by simp [LT.rows_app,LT.rows,tr],?_,?_,by simp [LT.items_app,LT.items,tc],k1.trans k2⟩
    ·rw [LT.locs_app]
     exact pair_nd tn (by simp [LT.locs]) (n:=S1.length) (ta.lt) (by simp [LT.locs]; exact g2)
    ·rw [LT.locs_app]
     intro x hx
     rcases List.mem_append.mp hx with z | z
     ·exact tl x z
     ·simp [LT.locs] at z; omega
   refine ⟨by simp,_,rfl,?_⟩
   cases r with
   | set x v =>
    simp [wipeE,stepE_wp,Rw.pv,-zq0,-zq1,-zq2,-zq3,-zq4,-zq5,-zq6]
    refine lst_wp (by simp) ?_
    intro n S2 e2 k2 g2
    have lk2:=k2.1
    simp [-zq0,-zq1,-zq2,-zq3,-zq4,-zq5,-zq6]
    exact ⟨by omega,plain (.set x v) rfl rfl n S2 e2 k2 g2⟩
   | send x =>
    simp [wipeE,stepE_wp,Rw.pv,-zq0,-zq1,-zq2,-zq3,-zq4,-zq5,-zq6]
    refine lst_wp (by simp) ?_
    intro n S2 e2 k2 g2
    have lk2:=k2.1
    simp [-zq0,-zq1,-zq2,-zq3,-zq4,-zq5,-zq6]
    exact ⟨by omega,plain (.send x) rfl rfl n S2 e2 k2 g2⟩
   | give x =>
    simp [wipeE,stepE_wp,Rw.pv,-zq0,-zq1,-zq2,-zq3,-zq4,-zq5,-zq6]
    refine lst_wp (by simp) ?_
    intro n S2 e2 k2 g2
    have lk2:=k2.1
    simp [-zq0,-zq1,-zq2,-zq3,-zq4,-zq5,-zq6]
    exact ⟨by omega,plain (.give x) rfl rfl n S2 e2 k2 g2⟩
   | iff x a b =>
    simp only [Rw.dep] at hdr
    simp only [Rw.each,List.length_cons,List.length_append] at her
    simp [wipeE,stepE_wp,Rw.pv,-zq0,-zq1,-zq2,-zq3,-zq4,-zq5,-zq6]
    refine loose_wp d a S1 _ _ (by omega) (by omega) ?_
    intro la ua S2 e2 a2 r2 n2 l2 k2
    simp [-zq0,-zq1,-zq2,-zq3,-zq4,-zq5,-zq6]
    refine loose_wp d b S2 _ _ (by omega) (by omega) ?_
    intro lb ub S3 e3 a3 r3 n3 l3 k3
    simp [-zq0,-zq1,-zq2,-zq3,-zq4,-zq5,-zq6]
    refine lst_wp (by simp) ?_
    intro n S4 e4 k4 g4
    have lk4:=k4.1
    simp [-zq0,-zq1,-zq2,-zq3,-zq4,-zq5,-zq6]
    have k24:=k3.trans k4
    have k14:=k2.trans k24
    have q2:∀ z ∈ la :: ua.locs,z < S2.length:=fun z hz => by
     rcases List.mem_cons.mp hz with rfl | hz
     ·exact lt_of_get e2
     ·exact a2.lt z hz
    have q3:∀ z ∈ lb :: ub.locs,z < S3.length:=fun z hz => by
     rcases List.mem_cons.mp hz with rfl | hz
     ·exact lt_of_get e3
     ·exact a3.lt z hz
    have k2l:=k2.1
    have k3l:=k3.1
    refine ⟨by omega,hJ _ _ ⟨t.app (.iff n x a b la ua lb ub .nil),by simp [LT.items_app,LT.items],LT.at_app.mpr ⟨ta.keep k14 (by simp),?_⟩,by simp [LT.rows_app,LT.rows,tr,r2,r3],?_,?_,by simp [LT.items_app,LT.items,tc],k1.trans k14⟩⟩
    ·exact ⟨e4,k24.get e2 (by simp),k4.get e3 (by simp),a2.keep k24 (by simp),a3.keep k4 (by simp),trivial⟩
    ·rw [LT.locs_app]
     refine pair_nd tn ?_ (n:=S1.length) ta.lt ?_
     ·have:(LT.locs (.iff n x a b la ua lb ub .nil)).Perm (((la :: ua.locs) ++ (lb :: ub.locs)) ++ [n]):=by
       simp only [LT.locs,List.append_nil]
       exact ((List.perm_append_singleton n _).trans ((List.perm_middle.cons la).cons n)).symm
      refine this.nodup_iff.mpr (pair_nd (pair_nd n2 n3 (n:=S2.length) q2 l3) (by simp) (n:=S3.length) (fun z hz => ?_) (by simp; exact g4))
      rcases List.mem_append.mp hz with q | q
      ·have:=q2 z q; omega
      ·exact q3 z q
     ·intro z hz
      simp only [LT.locs,List.mem_cons,List.mem_append,List.append_nil] at hz
      have:=l2 z; have:=l3 z
      simp only [List.mem_cons] at *
      rcases hz with q | q | q | q | q
      ·omega
      ·exact l2 z (.inl q)
      ·have:=l3 z (.inl q); omega
      ·exact l2 z (.inr q)
      ·have:=l3 z (.inr q); omega
    ·rw [LT.locs_app]
     intro z hz
     rcases List.mem_append.mp hz with q | q
     ·exact tl z q
     ·simp only [LT.locs,List.mem_cons,List.mem_append,List.append_nil] at q
      rcases q with q | q | q | q | q
      ·omega
      ·have:=l2 z (by simp [q]); omega
      ·have:=l3 z (by simp [q]); omega
      ·have:=l2 z (by simp [q]); omega
      ·have:=l3 z (by simp [q]); omega
  ·rintro acc S1 ⟨t,rfl,ta,tr,tn,tl,tc,k1⟩
   refine ⟨by simp,new_wp ?_⟩
   intro n S2 e2 k2 g2
   have lk2:=k2.1
   simp [-zq0,-zq1,-zq2,-zq3,-zq4,-zq5,-zq6]
   have k1l:=k1.1
   refine h n t S2 e2 (ta.keep k2 (by simp)) tr (List.nodup_cons.mpr ⟨fun z => by have:=ta.lt n z; omega,tn⟩) ?_ (k1.trans k2)
   intro x hx
   rcases List.mem_cons.mp hx with rfl | z
   ·omega
   ·exact tl x z
def spP (q:Nat × Nat × Nat):PV:=.tup [.loc q.1,.int (q.2.1:Int),.int (q.2.2:Int)]
theorem spots_wp:∀ (d:Nat) (t:LT) (l dp:Nat) (S:Sto) (P:PV→Sto→Prop) (R:Str→PV→Sto→Prop),S[l]? = some (.lst t.items)→t.At S→Rw.deps t.rows < d→t.sz ≤ 1000→dp + d ≤ 1000 →
  (∀ m S',S'[m]? = some (.lst ((t.spots l 0 dp).map spP))→Keep [] S S'→S.length ≤ m→P (.loc m) S')→wp (m_q12 d [.loc l,.int (dp:Int)] S) P R
 | 0,_,_,_,_,_,_,_,_,h,_,_,_ => by omega
 | d + 1,t,l,dp,S,P,R,hl,ha,hd,hs,hdp,h => by
  unfold m_q12
  rw [callS_wp]
  have isz:=t.items_sz
  simp [startE,-zq0,-zq1,-zq2,-zq3,-zq4,-zq5,-zq6]
  refine lst_wp (by simp) ?_
  intro fl S1 e1 k1 g1
  have lk1:=k1.1
  have hl1:=k1.get hl (by simp)
  simp [hl1,-zq0,-zq1,-zq2,-zq3,-zq4,-zq5,-zq6]
  refine ⟨by unfold rngOk; omega,?_⟩
  refine forR_wp (fun i τ S' => ∃ (u v:LT) (fl:Nat) (x3 x4:Option PV),t = u.app v∧u.items.length = i∧τ = [some (.loc l),some (.int (dp:Int)),some (.loc fl),x3,x4]∧S'[fl]? = some (.lst ((u.spots l 0 dp).map spP))∧S.length ≤ fl∧Keep [] S S') ⟨.nil,t,fl,none,none,rfl,rfl,rfl,by simpa [LT.spots] using e1,g1,k1⟩ ?_ ?_
  ·rintro i τ S2 J hi ⟨u,v,fl,x3,x4,rfl,hu,rfl,e2,g2,k2⟩ hJ
   have hav:=(LT.at_app.mp ha).2
   have hvn:v.items ≠ []:=fun z => by rw [LT.items_app,z] at hi; simp at hi; omega
   obtain ⟨il,p,subs,v1,w,F⟩:=LT.fst_of hav hvn
   have hl2:=k2.get hl (by simp)
   have hat:atI ((u.app v).items) (i:Int) = some (.loc il):=by
    rw [LT.items_app,F.eq,LT.items_app,F.it]
    obtain ⟨y,h1,h2,_⟩:=atI_nat (xs:=u.items ++ ([.loc il] ++ w.items)) (i:=(i:Int)) (by omega) (by simp; omega)
    rw [h1]
    simp only [Int.toNat_natCast] at h2
    rw [← h2,← hu]; simp
   have hsp:=LT.spots_len l u 0 dp
   have hsz:=LT.sz_app u v
   have fsz:=F.sz
   have lfl:=lt_of_get e2
   have lil:=lt_of_get F.ob
   have ll:=lt_of_get hl
   refine ⟨by simp,_,rfl,?_⟩
   simp [e2,-zq0,-zq1,-zq2,-zq3,-zq4,-zq5,-zq6]
   refine ⟨by omega,?_⟩
   generalize hS3:S2.set fl _ = S3
   have e3:=(congrArg (fun s:Sto => s[fl]?) hS3).symm.trans (set_get e2)
   have k3:Keep [] S S3:=by rw [← hS3]; exact ((k2.mono (M':=[fl]) (by simp)).trans (.set (by simp))).mono fun x hx hlt => by simp at hx; omega
   simp [k3.get hl (by simp),hat,k3.get F.ob (by simp),-zq0,-zq1,-zq2,-zq3,-zq4,-zq5,-zq6]
   refine slL_wp (k3.get F.ob (by simp)) ?_
   intro sl S4 e4 k4 g4
   have lk4:=k4.1
   rw [cut_1] at e4
   have k34:=k3.trans k4
   simp [e4,-zq0,-zq1,-zq2,-zq3,-zq4,-zq5,-zq6]
   have e34:=k4.get e3 (by simp)
   refine forM_wp (fun q:Nat × LT => PV.loc q.1) (fun dn τ S' => ∃ (fl:Nat) (x4:Option PV),τ = [some (.loc l),some (.int (dp:Int)),some (.loc fl),some (.int (i:Int)),x4]∧S'[fl]? = some (.lst ((u.spots l 0 dp ++ (l,i,dp) :: dn.flatMap (fun q => q.2.spots q.1 0 (dp + 1))).map spP))∧S.length ≤ fl∧Keep [] S4 S') ⟨fl,_,rfl,by rw [e34]; simp [spP],g2,.refl⟩ ?_ ?_
   ·rintro dn q rs τ S5 J2 eq ⟨fl,x4,rfl,e5,g5,k5⟩ hJ2
    have hq:q ∈ subs:=by rw [eq]; simp
    obtain ⟨s1,s2,s3,s4⟩:=F.sub q hq
    have k45:=k34.trans k5
    refine ⟨by intro p hp; simp at hp; subst hp; exact k5.get e4 (by simp),_,rfl,?_⟩
    simp [-zq0,-zq1,-zq2,-zq3,-zq4,-zq5,-zq6]
    have hdq:((dp:Int) + 1) = ((dp + 1:Nat):Int):=by omega
    rw [hdq]
    have hdv:Rw.deps v.rows ≤ Rw.deps (u.app v).rows:=by rw [LT.rows_app,deps_app]; omega
    refine spots_wp d q.2 q.1 (dp + 1) S5 _ _ (k45.get s1 (by simp)) (s2.keep k45 (by simp)) (by omega) (by omega) (by omega) ?_
    intro m S6 e6 k6 g6
    simp [-zq0,-zq1,-zq2,-zq3,-zq4,-zq5,-zq6]
    refine addL_wp (k6.get e5 (by simp)) e6 ?_ ?_
    ·have e1:=LT.subs_len (dp:=dp) dn
     have e2:=congrArg (fun l:List (Nat × LT) => (l.map fun q => q.2.sz).sum) eq
     simp only [List.map_append,List.map_cons,List.sum_append,List.sum_cons] at e2
     have e3:=LT.spots_len q.1 q.2 0 (dp + 1)
     simp only [List.length_map,List.length_append,List.length_cons,e1,e3,hsp]
     omega
    intro fl2 S7 e7 k7 g7
    have lk7:=k7.1
    simp [-zq0,-zq1,-zq2,-zq3,-zq4,-zq5,-zq6]
    have k5l:=k5.1; have k34l:=k34.1; have k6l:=k6.1
    refine hJ2 _ _ ⟨fl2,_,rfl,?_,by omega,k5.trans (k6.trans k7)⟩
    rw [e7]; simp
   ·rintro τ S5 ⟨fl,x4,rfl,e5,g5,k5⟩
    refine ⟨by intro p hp; simp at hp; subst hp; exact k5.get e4 (by simp),?_⟩
    refine hJ _ _ ⟨u.app v1,w,fl,_,_,by rw [LT.app_assoc,← F.eq],?_,rfl,?_,g5,k34.trans k5⟩
    ·rw [LT.items_app,F.it]; simp [hu]
    ·rw [e5,LT.spots_app,F.sp,hu,Nat.zero_add]
  ·rintro τ S2 ⟨u,v,fl,x3,x4,rfl,hu,rfl,e2,g2,k2⟩
   have hv:v.spots l (0 + u.items.length) dp = []:=by
    have:v.items.length = 0:=by rw [LT.items_app,List.length_append] at hu; omega
    cases v with
    | nil => rfl
    | _ => simp [LT.items] at this
   refine ⟨by simp,?_⟩
   simp [-zq0,-zq1,-zq2,-zq3,-zq4,-zq5,-zq6]
   refine h fl S2 ?_ k2 g2
   rw [LT.spots_app,hv,List.append_nil]; exact e2
theorem bound_wp:∀ (d:Nat) (t:LT) (l:Nat) (S:Sto) (P:PV→Sto→Prop) (R:Str→PV→Sto→Prop),S[l]? = some (.lst t.items)→t.At S→Rw.deps t.rows < d→t.sz ≤ 1000 →
  (∀ S',Keep [] S S'→P (.tup (Rw.pvs t.rows)) S')→wp (m_q14 d [.loc l] S) P R
 | 0,_,_,_,_,_,_,_,h,_,_ => by omega
 | d + 1,t,l,S,P,R,hl,ha,hd,hs,h => by
  unfold m_q14
  rw [callS_wp]
  have isz:=t.items_sz
  simp [startE,-zq0,-zq1,-zq2,-zq3,-zq4,-zq5,-zq6]
  refine lst_wp (by simp) ?_
  intro fl S1 e1 k1 g1
  have lk1:=k1.1
  have hl1:=k1.get hl (by simp)
  have ll:=lt_of_get hl
  simp [hl1,-zq0,-zq1,-zq2,-zq3,-zq4,-zq5,-zq6]
  refine for_wp (fun dn rs τ S' => ∃ (u v:LT) (x2 x3:Option PV),t = u.app v∧u.items = dn∧v.items = rs∧τ = [some (.loc l),some (.loc fl),x2,x3]∧S'[fl]? = some (.lst (Rw.pvs u.rows))∧Keep [] S S') ⟨.nil,t,none,none,rfl,rfl,rfl,rfl,by simpa [LT.rows,Rw.pvs] using e1,k1⟩ ?_ ?_
  ·rintro dn p rs τ S2 J eq ⟨u,v,x2,x3,rfl,hu,hv,rfl,e2,k2⟩ hJ
   have hav:=(LT.at_app.mp ha).2
   have hsz:=LT.sz_app u v
   have hdp:Rw.deps (u.app v).rows = max (Rw.deps u.rows) (Rw.deps v.rows):=by rw [LT.rows_app,deps_app]
   have hlu:(Rw.pvs u.rows).length ≤ 1000:=by
    rw [pvs_map,List.length_map]
    have h1:=LT.sz_rows (LT.at_app.mp ha).1
    have h2:=len_eachs u.rows
    omega
   have fin:∀ (v1 w:LT) (r:Rw) (x2 x3:Option PV) S3,v = v1.app w→v1.items = [p]→v1.rows = [r]→Keep [] S2 S3→J [some (.loc l),some (.loc fl),x2,x3] (S3.set fl (.lst (Rw.pvs u.rows ++ [r.pv]))):=fun v1 w r x2 x3 S3 h1 h2 h3 k3 => by
    refine hJ _ _ ⟨u.app v1,w,x2,x3,by rw [LT.app_assoc,← h1],by rw [LT.items_app,hu,h2],?_,rfl,?_,?_⟩
    ·rw [h1,LT.items_app,h2] at hv
     simpa using hv
    ·rw [set_get (k3.get e2 (by simp)),LT.rows_app,h3]; simp [pvs_map]
    ·exact (((k2.trans k3).mono (M':=[fl]) (by simp)).trans (.set (by simp))).mono fun x hx hlt => by simp at hx; omega
   refine ⟨by simp [k2.get hl (by simp)],_,rfl,?_⟩
   cases v with
   | nil => simp [LT.items] at hv
   | one il r w =>
    simp only [LT.items,List.cons.injEq] at hv
    obtain ⟨rfl,_⟩:=hv
    simp [k2.get hav.1 (by simp),e2,-zq0,-zq1,-zq2,-zq3,-zq4,-zq5,-zq6]
    exact ⟨by omega,fin (.one il r .nil) w r _ _ S2 rfl rfl rfl .refl⟩
   | iff il x ra rb a ta b tb w =>
    simp only [LT.items,List.cons.injEq] at hv
    obtain ⟨rfl,_⟩:=hv
    obtain ⟨h1,h2,h3,h4,h5,h6⟩:=hav
    simp only [LT.rows,Rw.deps,Rw.dep] at hdp
    simp only [LT.sz] at hsz
    simp [k2.get h1 (by simp),Rw.pv,-zq0,-zq1,-zq2,-zq3,-zq4,-zq5,-zq6]
    refine bound_wp d ta a S2 _ _ (k2.get h2 (by simp)) (h4.keep k2 (by simp)) (by omega) (by omega) ?_
    intro S3 k3
    have k23:=k2.trans k3
    simp [k23.get h1 (by simp),-zq0,-zq1,-zq2,-zq3,-zq4,-zq5,-zq6]
    refine bound_wp d tb b S3 _ _ (k23.get h3 (by simp)) (h5.keep k23 (by simp)) (by omega) (by omega) ?_
    intro S4 k4
    simp [(k3.trans k4).get e2 (by simp),-zq0,-zq1,-zq2,-zq3,-zq4,-zq5,-zq6]
    exact ⟨by omega,fin (.iff il x ra rb a ta b tb .nil) w (.iff x ta.rows tb.rows) _ _ S4 rfl rfl rfl (k3.trans k4)⟩
  ·rintro τ S2 ⟨u,v,x2,x3,rfl,hu,hv,rfl,e2,k2⟩
   refine ⟨by simp [k2.get hl (by simp)],?_⟩
   simp [e2,-zq0,-zq1,-zq2,-zq3,-zq4,-zq5,-zq6]
   have:v = .nil:=by cases v <;> simp [LT.items] at hv; rfl
   subst this
   have e:(u.app .nil).rows = u.rows:=by rw [LT.rows_app]; simp [LT.rows]
   rw [e] at h
   exact h S2 k2
end K38
namespace K38
open PySem PySem.Spec PyProof.Rows L2 PL
theorem new_row_wp {t g B ow he:Nat} {ns:List Str} {hs:List Hd} {deep:Int} {S:Sto} {P:PV→Sto→Prop} {R:Str→PV→Sto→Prop} (T:Tray t g B S) (hB:B < 100000000000) (ho:S[ow]? = some (.lst (ns.map PV.str))) (hh:S[he]? = some (.lst (hs.map Hd.pv)))
  (n0:0 < ns.length) (n1:ns.length ≤ 100) (h0:0 < hs.length) (h1:hs.length ≤ 90) (hp:∀ x ∈ hs,x.2.length ≤ 4) (ot:ow ≠ t∧ow ≠ g) (ht:he ≠ t∧he ≠ g)
  (h:∀ (x:Rw) S',x.ok ns hs→x.dep ≤ 2→(4 ≤ deep→x.dep ≤ 1)→x.each.length ≤ 4→Tray t g (B + 150) S'→Keep [t,g] S S'→P x.pv S'):wp (m_q2 [.loc t,.loc ow,.loc he,.int deep] S) P R:=by
 unfold m_q2
 rw [callS_wp]
 have lT:=T.lt
 have lo:=lt_of_get ho
 have lh:=lt_of_get hh
 simp [startE,-zq0,-zq1,-zq2,-zq3,-zq4,-zq5,-zq6]
 refine lst_wp (by simp) ?_
 intro le S1 e1 k1 g1
 have lk1:=k1.1
 simp [-zq0,-zq1,-zq2,-zq3,-zq4,-zq5,-zq6]
 have T1:=T.keep k1 (by simp) (by simp)
 have G1:Gen t g ow he le ns hs S1:=⟨k1.get ho (by simp),k1.get hh (by simp),ot.1,ot.2,by omega,ht.1,ht.2,by omega,by omega,by omega,n0,n1,h0,by omega,hp⟩
 refine (gen_wp 8).1 1 _ 1 S1 _ _ (by omega) (by omega) T1 (by simp; omega) G1 e1 (by omega) ?_
 intro r S2 ok dep len T2 el2 k2
 have K2:Keep [t,g] S S2:=((k1.mono (M':=[t,g,le]) (by simp)).trans k2).mono fun x hx hlt => by simp at hx ⊢; omega
 have len1:r.each.length = 1:=by have:=Rw.each_pos r; omega
 rw [len1] at T2
 simp [-zq0,-zq1,-zq2,-zq3,-zq4,-zq5,-zq6]
 refine ⟨fun hd4 => ?_,fun hd4 => h r S2 ok (by omega) (fun _ => dep) (by omega) (T2.up (by omega)) K2⟩
 refine draw_wp T2 (by omega) (by decide) (by decide) ?_
 intro lot S3 l0 l1 T3 k3
 have K3:=K2.trans k3
 simp [-zq0,-zq1,-zq2,-zq3,-zq4,-zq5,-zq6]
 refine ⟨fun _ => ?_,fun _ => h r S3 ok (by omega) (fun _ => dep) (by omega) (T3.up (by omega)) K3⟩
 refine lst_wp (by simp) ?_
 intro le2 S4 e4 k4 g4
 have lk4:=k4.1
 simp [-zq0,-zq1,-zq2,-zq3,-zq4,-zq5,-zq6]
 have K4:=K3.trans (k4.mono (by simp))
 have l3:=K3.1
 have l1':=k1.1
 have T4:=T3.keep k4 (by simp) (by simp)
 have G4:Gen t g ow he le2 ns hs S4:=⟨K4.get ho (by simp; omega),K4.get hh (by simp; omega),ot.1,ot.2,by omega,ht.1,ht.2,by omega,by omega,by omega,n0,n1,h0,by omega,hp⟩
 refine (gen_wp 8).1 1 _ 1 S4 _ _ (by omega) (by omega) T4 (by simp; omega) G4 e4 (by omega) ?_
 intro r2 S5 ok2 dep2 len2 T5 el5 k5
 have K5:Keep [t,g] S S5:=(K3.trans (((k4.mono (M':=[t,g,le2]) (by simp)).trans k5).mono (M':=[t,g]) fun x hx hlt => by simp at hx ⊢; omega))
 have len21:r2.each.length = 1:=by have:=Rw.each_pos r2; omega
 rw [len21] at T5
 simp [-zq0,-zq1,-zq2,-zq3,-zq4,-zq5,-zq6]
 obtain ⟨pss,hpss⟩:∃ pss:List (List Rw),pss = [[],[r],[r,r2]]:=⟨_,rfl⟩
 have hps:∀ q ∈ pss,Rw.oks ns hs q∧Rw.deps q ≤ 1∧(Rw.eachs q).length ≤ 2:=fun q hq => by
  rw [hpss] at hq
  simp only [List.mem_cons,List.not_mem_nil,or_false] at hq
  rcases hq with rfl | rfl | rfl
  ·simp [Rw.oks,Rw.deps,Rw.eachs]
  ·simp [Rw.oks,Rw.deps,Rw.eachs,ok]; omega
  ·simp [Rw.oks,Rw.deps,Rw.eachs,ok,ok2]; omega
 have hpl:[PV.tup [],PV.tup [r.pv],PV.tup [r.pv,r2.pv]] = pss.map fun q => PV.tup (Rw.pvs q):=by rw [hpss]; simp [Rw.pvs]
 rw [hpl]
 refine lst_wp (by rw [hpss]; simp) ?_
 intro ql S6 e6 k6 g6
 have lk6:=k6.1
 have K6:=K5.trans (k6.mono (by simp))
 have T6:=T5.keep k6 (by simp) (by simp)
 have l5:=K5.1
 have ho6:=K6.get ho (by simp; omega)
 simp [ho6,-zq0,-zq1,-zq2,-zq3,-zq4,-zq5,-zq6]
 refine pick (f:=PV.str) (xs:=ns) T6 (by omega) ho6 n0 n1 (by omega) (by omega) ?_
 intro i x S7 hx T7 k7 e7 hat
 simp [e7,hat,-zq0,-zq1,-zq2,-zq3,-zq4,-zq5,-zq6]
 refine draw_wp T7 (by omega) (by decide) (by decide) ?_
 intro c S8 c0 c1 T8 k8
 have lq:=lt_of_get e6
 have e8:S8[ql]? = some (.lst (pss.map fun q => PV.tup (Rw.pvs q))):=(k7.trans k8).get e6 (by simp; omega)
 have hk:∀ k:Int,0 ≤ k→k < 3→∃ q,(Rw.oks ns hs q∧Rw.deps q ≤ 1∧(Rw.eachs q).length ≤ 2)∧(k < 2→(Rw.eachs q).length ≤ 1)∧atI (pss.map fun q => PV.tup (Rw.pvs q)) k = some (.tup (Rw.pvs q)):=fun k k0 k1 => by
  rw [hpss]
  obtain rfl | rfl | rfl:k = 0 ∨ k = 1 ∨ k = 2:=by omega
  ·exact ⟨[],hps _ (by rw [hpss]; simp),fun _ => by simp [Rw.eachs],atI_0 _ _⟩
  ·exact ⟨[r],hps _ (by rw [hpss]; simp),fun _ => by simp [Rw.eachs,len1],atI_1 _ _ _⟩
  ·exact ⟨[r,r2],hps _ (by rw [hpss]; simp),fun z => by omega,rfl⟩
 obtain ⟨qa,qa1,_,qa2⟩:=hk c c0 (by omega)
 simp [e8,qa2,-zq0,-zq1,-zq2,-zq3,-zq4,-zq5,-zq6]
 refine draw_wp T8 (by omega) (by decide) (by decide) ?_
 intro c' S9 c0' c1' T9 k9
 obtain ⟨qb,qb1,qb3,qb2⟩:=hk c' c0' (by omega)
 simp [k9.get e8 (by simp; omega),qb2,-zq0,-zq1,-zq2,-zq3,-zq4,-zq5,-zq6]
 have:=h (.iff x qa qb) S9 ⟨hx,qa1.1,qb1.1⟩ (by simp only [Rw.dep]; have:=qa1.2.1; have:=qb1.2.1; omega) (fun z => by omega) (by simp only [Rw.each,List.length_cons,List.length_append]; have:=qa1.2.2; have:=qb3 (by omega); omega) (T9.up (by omega)) (((K6.trans k7).trans k8).trans k9)
 simpa [Rw.pv] using this
end K38
namespace K38
open PySem PySem.Spec PyProof.Rows L2 PL
theorem law_each_wp {rs:List Rw} {S:Sto} {P:PV→Sto→Prop} {R:Str→PV→Sto→Prop} (hf:Rw.fairs rs) (hd:Rw.deps rs ≤ 20) (hl:(Rw.eachs rs).length ≤ 1000)
  (h:∀ n S',S'[n]? = some (.lst (Rw.pvs (Rw.eachs rs)))→Keep [] S S'→S.length ≤ n→P (.loc n) S'):wp (m_q19 [.tup (Rw.pvs rs)] S) P R:=by
 unfold m_q19
 rw [callS_wp]
 simp [startE,-zq0,-zq1,-zq2,-zq3,-zq4,-zq5,-zq6]
 refine lst_wp (by simp) ?_
 intro fo S1 e1 k1 g1
 have lk1:=k1.1
 simp [-zq0,-zq1,-zq2,-zq3,-zq4,-zq5,-zq6]
 refine list_wp (xs:=Rw.pvs rs) (by simp) ?_
 intro le S2 e2 k2 g2
 have lk2:=k2.1
 simp [-zq0,-zq1,-zq2,-zq3,-zq4,-zq5,-zq6]
 have lt1:=lt_of_get e1
 refine while_wp (fun m τ S' => ∃ (fs ls:List Rw) (l:Nat) (x3:Option PV),m = (Rw.eachs ls).length∧τ = [some (.tup (Rw.pvs rs)),some (.loc fo),some (.loc l),x3]∧S'[fo]? = some (.lst (Rw.pvs fs))∧S'[l]? = some (.lst (Rw.pvs ls))∧S.length ≤ l∧fo ≠ l∧fs ++ Rw.eachs ls = Rw.eachs rs∧Rw.fairs ls∧Rw.deps ls ≤ 20∧Keep [] S S')
  ⟨[],rs,le,none,rfl,rfl,by simpa [Rw.pvs] using k2.get e1 (by simp),e2,by omega,by omega,by simp,hf,hd,k1.trans k2⟩ ?_
 rintro m τ S3 C J ⟨fs,ls,l,x3,rfl,rfl,e3,e4,g4,ne,hsum,hfl,hdl,k3⟩ hT hF hJ
 simp [-zq0,-zq1,-zq2,-zq3,-zq4,-zq5,-zq6]
 refine lst_wp (by simp) ?_
 intro m5 S5 e5 k5 g5
 have lk5:=k5.1
 have e45:S5[l]? = some (.lst (Rw.pvs ls)):=by (repeat' (first | assumption | refine Keep.get (by assumption) ?_ (by first | (simp; done) | (simp; omega))))
 have e35:S5[fo]? = some (.lst (Rw.pvs fs)):=by (repeat' (first | assumption | refine Keep.get (by assumption) ?_ (by first | (simp; done) | (simp; omega))))
 obtain ⟨b,hb1,hb2⟩:=eqB_lists (n:=41) (by decide) e45 e5 (Rw.pls hfl _ (by omega)) (by simp [PlL])
 simp [hb1]
 have hlen:(Rw.pvs fs).length = fs.length:=by rw [pvs_map]; simp
 have hfs:fs.length + (Rw.eachs ls).length ≤ 1000:=by rw [← List.length_append,hsum]; exact hl
 cases ls with
 | nil =>
  have:b = true:=hb2.mpr (by simp [Rw.pvs])
  subst this
  refine hF S5 ?_
  simp [Rw.eachs] at hsum
  subst hsum
  simp
  exact h fo S5 e35 (k3.trans k5) (by omega)
 | cons r ls =>
  have:b = false:=by
   cases b with
   | false => rfl
   | true => have:=hb2.mp rfl; simp [Rw.pvs] at this
  subst this
  refine hT S5 ?_
  have hrp:=Rw.each_pos r
  have hfr:r.fair:=hfl.1
  have hfl2:=hfl.2
  simp only [Rw.eachs,List.length_append] at hfs hsum
  simp only [Rw.deps] at hdl
  simp only [Rw.pvs] at e45
  have hll:(Rw.pvs ls).length = ls.length:=by rw [pvs_map]; simp
  have ix:ixN (ls.length + 1) 0 = some 0:=by
   unfold ixN; rw [if_pos (by omega),if_pos (by omega)]; rfl
  have e36:(S5.set l (.lst (Rw.pvs ls)))[fo]? = some (.lst (Rw.pvs fs)):=by rw [List.getElem?_set_ne (Ne.symm ne)]; exact e35
  have lle:=len_eachs ls
  simp [e45,hll,ix,e36,hlen,-zq0,-zq1,-zq2,-zq3,-zq4,-zq5,-zq6]
  refine ⟨by omega,?_⟩
  have e7:((S5.set l (.lst (Rw.pvs ls))).set fo (.lst (Rw.pvs fs ++ [r.pv])))[l]? = some (.lst (Rw.pvs ls)):=by rw [List.getElem?_set_ne ne]; exact set_get e45
  have e8:((S5.set l (.lst (Rw.pvs ls))).set fo (.lst (Rw.pvs fs ++ [r.pv])))[fo]? = some (.lst (Rw.pvs (fs ++ [r]))):=by rw [set_get e36]; simp [pvs_map]
  have k7:Keep [] S ((S5.set l (.lst (Rw.pvs ls))).set fo (.lst (Rw.pvs fs ++ [r.pv]))):=((k3.trans k5).step (.set (M:=[l]) (by simp)) (by intro x hx hlt; simp at hx; omega)).step (.set (M:=[fo]) (by simp)) (by intro x hx hlt; simp at hx; omega)
  generalize (S5.set l (.lst (Rw.pvs ls))).set fo (.lst (Rw.pvs fs ++ [r.pv])) = S7 at *
  have fin:r.each = [r]→J [some (.tup (Rw.pvs rs)),some (.loc fo),some (.loc l),some r.pv] S7:=fun hr =>
   hJ _ _ _ (by rw [Rw.eachs,List.length_append]; omega) ⟨fs ++ [r],ls,l,_,rfl,rfl,e8,e7,g4,ne,by rw [← hsum,hr]; simp,hfl2,by omega,k7⟩
  cases r with
  | set x v => simp [Rw.pv] at fin ⊢; exact fin rfl
  | send x => simp [Rw.pv] at fin ⊢; exact fin rfl
  | give x => simp [Rw.pv] at fin ⊢; exact fin rfl
  | iff x a b =>
   simp only [Rw.each,List.length_cons,List.length_append] at hfs
   simp only [Rw.dep] at hdl
   have hla:=len_eachs a
   have hlb:=len_eachs b
   have lt7:=lt_of_get e8
   have lt7l:=lt_of_get e7
   clear fin
   simp [Rw.pv,-zq0,-zq1,-zq2,-zq3,-zq4,-zq5,-zq6]
   refine list_wp (xs:=Rw.pvs a) (by simp) ?_
   intro n8 S8 f8 k8 g8
   have lk8:=k8.1
   simp [-zq0,-zq1,-zq2,-zq3,-zq4,-zq5,-zq6]
   refine list_wp (xs:=Rw.pvs b) (by simp) ?_
   intro n9 S9 f9 k9 g9
   have lk9:=k9.1
   simp [-zq0,-zq1,-zq2,-zq3,-zq4,-zq5,-zq6]
   refine addL_wp (by (repeat' (first | assumption | refine Keep.get (by assumption) ?_ (by first | (simp; done) | (simp; omega))))) f9 (by simp [pvs_map]; omega) ?_
   intro n10 S10 f10 k10 g10
   have lk10:=k10.1
   simp [-zq0,-zq1,-zq2,-zq3,-zq4,-zq5,-zq6]
   refine addL_wp f10 (by (repeat' (first | assumption | refine Keep.get (by assumption) ?_ (by first | (simp; done) | (simp; omega))))) (by simp [pvs_map]; omega) ?_
   intro n11 S11 f11 k11 g11
   have lk11:=k11.1
   simp
   have hk:=k7.1
   refine hJ _ _ _ ?_ ⟨fs ++ [.iff x a b],a ++ b ++ ls,n11,_,rfl,rfl,by (repeat' (first | assumption | refine Keep.get (by assumption) ?_ (by first | (simp; done) | (simp; omega)))),by rw [f11]; simp [pvs_map],by omega,by omega,?_,?_,?_,?_⟩
   ·rw [eachs_app,eachs_app,Rw.eachs,List.length_append,List.length_append,List.length_append]; simp only [Rw.each,List.length_cons,List.length_append]; omega
   ·rw [← hsum]; simp [eachs_app,Rw.each]
   ·rw [fairs_iff]
    intro q hq
    simp only [List.mem_append] at hq
    rcases hq with (hq | hq) | hq
    ·exact fairs_iff.mp hfr.2.1 q hq
    ·exact fairs_iff.mp hfr.2.2 q hq
    ·exact fairs_iff.mp hfl2 q hq
   ·rw [deps_app,deps_app]; omega
   ·exact (((k7.trans k8).trans k9).trans k10).trans k11
end K38
namespace PL
open PySem PySem.Spec PyProof.Rows L2
theorem seq_split {s t:SM} {τ : En} {S:Sto} {N:En→Sto→Prop} {T:PV→Sto→Prop} {R:Str→PV→En→Sto→Prop} (M:En→Sto→Prop) (h1:wpS (s τ S) M T R) (h2:∀ τ' S',M τ' S'→wpS (t τ' S') N T R):wpS (seqS s t τ S) N T R:=by
 rw [e_seqS,e_seqO]
 exact wpS_mono h1 h2 (fun _ _ h => h) (fun _ _ _ _ h => h)
end PL
namespace K38
open PySem PySem.Spec PyProof.Rows L2 PL
def abc3:List Str:=["a", "b", "c"]
theorem abc3_nm:∀ x ∈ abc3,Nm x:=by
 intro x hx
 simp only [abc3,List.mem_cons,List.not_mem_nil,or_false] at hx
 rcases hx with rfl | rfl | rfl <;> exact ⟨by unfold Lw; decide +kernel,by decide +kernel,by decide +kernel⟩
theorem mul01 {l:Nat} {xs:List PV} {p:Prop} [Decidable p] {S:Sto} {P:PV→Sto→Prop} {R:Str→PV→Sto→Prop} (e:S[l]? = some (.lst xs)) (hx:xs.length ≤ 1000) (h:∀ m S',S'[m]? = some (.lst (if p then xs else []))→Keep [] S S'→S.length ≤ m→P (.loc m) S'):wp (lift (mulLP (.loc l) (.int (if p then 1 else 0)) S)) P R:=by
 unfold mulLP
 by_cases c:p
 ·simp only [e,if_pos c] at h ⊢
  rw [if_pos (by simp; omega)]
  exact alloc_wp (by simpa using h)
 ·simp only [e,if_neg c] at h ⊢
  rw [if_pos (by simp)]
  exact alloc_wp (by simpa using h)
theorem rows_nil {rs:List Rw} (hf:Rw.fairs rs) (hd:Rw.deps rs ≤ 4) (S:Sto):eqB (.tup (Rw.pvs rs)) (.tup []) S = some (decide (rs = [])):=by
 obtain ⟨b,h1,h2⟩:=eqB_plain (S:=S) (n:=20) (by decide) (p:=.tup (Rw.pvs rs)) (q:=.tup []) (by
  have:PlL 19 (Rw.pvs rs):=Rw.pls hf 19 (by omega)
  simpa [Pl] using this) (by simp [Pl,PlL])
 rw [h1]
 congr 1
 rw [Bool.eq_iff_iff,h2]
 cases rs <;> simp [Rw.pvs]
def StE (t l he:Nat) (lot:Int) (lo:Nat) (S0:Sto) (rs:List Rw) (τ : PL.En) (S':Sto):Prop:=∃ (ev:Nat) (x6:Option PV),τ = [some (.loc t),some (.loc l),some (.int 180),some (.int lot),some (.loc he),some (.loc ev),x6,none,none,none,none,none,none,none,none,none,none,none]∧S'[ev]? = some (.lst (Rw.pvs rs))∧lo ≤ ev∧Keep [] S0 S'
def StF (t l he ev:Nat) (lot:Int) (lo:Nat) (S0:Sto) (ds:List Df) (τ : PL.En) (S':Sto):Prop:=∃ (fl:Nat) (x6:Option PV) (fs:List Df),τ = [some (.loc t),some (.loc l),some (.int 180),some (.int lot),some (.loc he),some (.loc ev),x6,some (.loc fl),none,none,none,none,none,none,none,none,none,none]∧S'[fl]? = some (.lst (fs.map Df.pv))∧(∀ d ∈ fs,d ∈ ds)∧0 < fs.length∧fs.length ≤ 6∧(fl = l ∨ lo ≤ fl)∧Keep [] S0 S'
def callN:Rw→List Str
 | .set _ (.call f _) => [f]
 | _ => []
theorem callN_len (r:Rw):(callN r).length ≤ 1:=by
 unfold callN
 split <;> simp
def StG (t l he ev fl ow sp:Nat) (lot:Int) (nm:Str) (y6:Option PV) (ps:List Str) (rs rows:List Rw) (S0:Sto) (τ : PL.En) (S':Sto):Prop:=∃ (cl:Nat) (x17:Option PV),τ = [some (.loc t),some (.loc l),some (.int 180),some (.int lot),some (.loc he),some (.loc ev),y6,some (.loc fl),some (.loc ow),some (.loc sp),some (.loc cl),none,some (.str nm),some (.tup (stL ps)),some (.tup (Rw.pvs rs)),none,none,x17]∧S'[cl]? = some (.lst ((rows.flatMap callN).map PV.str))∧Keep [] S0 S'
def StH (t l he ev fl ow sp cl:Nat) (lot:Int) (nm:Str) (y6 x17:Option PV) (ps:List Str) (rs:List Rw) (top:Nat) (S0:Sto) (τ : PL.En) (S':Sto):Prop:=τ = [some (.loc t),some (.loc l),some (.int 180),some (.int lot),some (.loc he),some (.loc ev),y6,some (.loc fl),some (.loc ow),some (.loc sp),some (.loc cl),none,some (.str nm),some (.tup (stL ps)),some (.tup (Rw.pvs rs)),none,none,x17]∧(top = 0 ∨ (Rw.eachs rs).length ≤ top)∧Keep [] S0 S'
theorem tri {A A' B B' C C' Q F:Prop} (q:Q) (f:A'→B'→C'→F):(A→Q)∧(A'→(B→Q)∧(B'→(C→Q)∧(C'→F))):=⟨fun _ => q,fun a => ⟨fun _ => q,fun b => ⟨fun _ => q,f a b⟩⟩⟩
theorem law_edit_wp {t g B l:Nat} {ds:List Df} {S:Sto} {P:PV→Sto→Prop} {R:Str→PV→Sto→Prop} (T:Tray t g B S) (hB:B < 90000000000) (hl:S[l]? = some (.lst (ds.map Df.pv))) (pg:Prg ds) (hc:∀ d ∈ ds,(Rw.eachs d.2.2).length ≤ 30) (lt:l ≠ t∧l ≠ g)
  (h:∀ (dd:Deed) S',Gd ds dd→Tray t g (B + 1000) S'→Keep [t,g] S S'→P dd.pv S'):wp (m_q21 [.loc t,.loc l,.int 180] S) P R:=by
 unfold m_q21
 rw [callS_wp]
 have lT:=T.lt
 have ll:=lt_of_get hl
 have h6:ds.length ≤ 6:=by have:=pg.hd.len; simpa using this
 have h0:0 < ds.length:=by
  cases ds with
  | nil => exact absurd pg.hd.main (by simp)
  | cons d ds => simp
 have c2:∀ (a b c:PV),cutP [a,b,c] none (some 2) = [a,b]:=fun a b c => by
  have:=cut_take (xs:=[a,b,c]) 2
  simpa using this
 simp [startE,-zq0,-zq1,-zq2,-zq3,-zq4,-zq5,-zq6]
 refine draw_wp T (by omega) (by decide) (by decide) ?_
 intro lot S1 l0 l1 T1 k1
 have e1:=k1.get hl (by simp; omega)
 simp [e1,-zq0,-zq1,-zq2,-zq3,-zq4,-zq5,-zq6]
 refine acc_map Df.pv (fun d => Hd.pv d.hd) (by intro p hp; simp at hp; subst hp; exact e1) (by simp; omega) ?_ ?_
 ·intro d hd acc J ha hJ
  refine ⟨_,rfl,?_⟩
  simp [wipeE,stepE_wp,Df.pv,ha,c2,-zq0,-zq1,-zq2,-zq3,-zq4,-zq5,-zq6]
  simpa [Hd.pv,Df.hd] using hJ
 refine new_wp ?_
 intro he S2 e2 k2 g2
 have lk2:=k2.1
 rw [List.nil_append] at e2
 have e2':S2[he]? = some (.lst ((ds.map Df.hd).map Hd.pv)):=by rw [e2,List.map_map]; rfl
 have T2:=T1.keep k2 (by simp) (by simp)
 simp [-zq0,-zq1,-zq2,-zq3,-zq4,-zq5,-zq6]
 refine lst_wp (by simp) ?_
 intro v0 S3 e3 k3 g3
 have lk3:=k3.1
 have T3:=T2.keep k3 (by simp) (by simp)
 have K3:Keep [t,g] S S3:=k1.trans ((k2.trans k3).mono (by simp))
 simp [-e_seqS,-zq0,-zq1,-zq2,-zq3,-zq4,-zq5,-zq6]
 refine seq_split (StE t l he lot S2.length S3 (ds.flatMap fun d => Rw.eachs d.2.2)) ?_ ?_
 ·simp [(k2.trans k3).get e1 (by simp),-zq0,-zq1,-zq2,-zq3,-zq4,-zq5,-zq6]
  refine forM_wp Df.pv (fun dn τ S' => StE t l he lot S2.length S3 (dn.flatMap fun d => Rw.eachs d.2.2) τ S') ⟨v0,_,rfl,by simpa [Rw.pvs] using e3,g3,.refl⟩ ?_ ?_
  ·rintro dn d rest τ S4 J heq ⟨ev,x6,rfl,e4,l4,k4⟩ hJ
   have hd:d ∈ ds:=by rw [heq]; simp
   have hdn:dn.length < 6:=by
    have:=congrArg List.length heq
    simp at this; omega
   have hfl:(dn.flatMap fun d => Rw.eachs d.2.2).length ≤ dn.length * 30:=len_flatMap_le fun e he => hc e (by rw [heq]; simp [he])
   refine ⟨by simp [((k2.trans k3).trans k4).get e1 (by simp)],_,rfl,?_⟩
   simp [Df.pv,-zq0,-zq1,-zq2,-zq3,-zq4,-zq5,-zq6]
   refine law_each_wp (pg.fair d hd).2.2 (by have:=pg.dep d hd; omega) (by have:=hc d hd; omega) ?_
   intro n5 S5 e5 k5 g5
   have lk5:=k5.1
   simp [-zq0,-zq1,-zq2,-zq3,-zq4,-zq5,-zq6]
   have hcd:=hc d hd
   refine addL_wp (k5.get e4 (by simp)) e5 (by simp only [pvs_map,List.length_map]; omega) ?_
   intro n6 S6 e6 k6 g6
   have lk6:=k6.1
   simp [-zq0,-zq1,-zq2,-zq3,-zq4,-zq5,-zq6]
   refine hJ _ _ ⟨n6,_,rfl,?_,?_,(k4.trans k5).trans k6⟩
   ·rw [e6]; simp [pvs_map]
   ·have:=k3.1; have:=k4.1; have:=k5.1; omega
  ·rintro τ S4 ⟨ev,x6,rfl,e4,l4,k4⟩
   refine ⟨by simp [((k2.trans k3).trans k4).get e1 (by simp)],?_⟩
   exact ⟨ev,x6,rfl,e4,l4,k4⟩
 rintro τ S4 ⟨ev,x6,rfl,e4,l4,k4⟩
 have K4:Keep [t,g] S S4:=K3.trans (k4.mono (by simp))
 have T4:=T3.keep k4 (by simp) (by simp)
 have l3:=K3.1
 have e14:=K4.get hl (by simp; omega)
 have hfl:(ds.flatMap fun d => Rw.eachs d.2.2).length ≤ ds.length * 30:=len_flatMap_le fun e he => hc e he
 obtain ⟨rows,hrows⟩:∃ rows,rows = ds.flatMap fun d => Rw.eachs d.2.2:=⟨_,rfl⟩
 rw [← hrows] at e4 hfl
 refine seq_split (StF t l he ev lot S4.length S4 ds) ?_ ?_
 ·simp [e14,-zq0,-zq1,-zq2,-zq3,-zq4,-zq5,-zq6]
  refine acc_filter Df.pv Df.pv (fun d => decide (d.2.2 ≠ [])) (by simp [e14]) (by simp; omega) ?_ ?_
  ·intro d hd acc J ha hJ
   have hq:=rows_nil (pg.fair d hd).2.2 (pg.dep d hd) S4
   refine ⟨_,rfl,?_⟩
   simp [wipeE,stepE_wp,Df.pv,hq,ha,-zq0,-zq1,-zq2,-zq3,-zq4,-zq5,-zq6]
   by_cases c:d.2.2 = []
   ·simp only [c,ne_eq,not_true_eq_false,decide_false,Bool.false_eq_true,if_false] at hJ
    simpa [c,Df.pv] using hJ
   ·simp only [c,ne_eq,not_false_eq_true,decide_true,if_true] at hJ
    simpa [c,Df.pv] using hJ
  refine new_wp ?_
  intro m1 S5 f1 k5 g5
  have lk5:=k5.1
  rw [List.nil_append] at f1
  simp [k5.get e4 (by simp),-zq0,-zq1,-zq2,-zq3,-zq4,-zq5,-zq6]
  have hfle:=List.length_filter_le (fun d:Df => decide (d.2.2 ≠ [])) ds
  refine mul01 f1 (by simp only [List.length_map]; omega) ?_
  intro m2 S6 f2 k6 g6
  have lk6:=k6.1
  have e16:=(k5.trans k6).get e14 (by simp)
  by_cases c:180 < ((Rw.pvs rows).length:Int)
  ·rw [if_pos c] at f2
   cases hfs:ds.filter fun d => decide (d.2.2 ≠ []) with
   | nil =>
    rw [hfs] at f2
    have ht:truP (.loc m2) S6 = some false:=by unfold truP; simp only [f2]; rfl
    simp [ht,-zq0,-zq1,-zq2,-zq3,-zq4,-zq5,-zq6]
    exact ⟨l,x6,ds,rfl,e16,fun d h => h,h0,h6,.inl rfl,k5.trans k6⟩
   | cons d fs =>
    rw [hfs] at f2 hfle
    have ht:truP (.loc m2) S6 = some true:=by unfold truP; simp only [f2]; rfl
    simp [ht,-zq0,-zq1,-zq2,-zq3,-zq4,-zq5,-zq6]
    refine ⟨m2,x6,d :: fs,rfl,f2,fun e he => ?_,by simp,by omega,.inr (by have:=k5.1; omega),k5.trans k6⟩
    exact (List.mem_filter.mp (hfs ▸ he)).1
  ·rw [if_neg c] at f2
   have ht:truP (.loc m2) S6 = some false:=by unfold truP; simp only [f2]; rfl
   simp [ht,-zq0,-zq1,-zq2,-zq3,-zq4,-zq5,-zq6]
   exact ⟨l,x6,ds,rfl,e16,fun d h => h,h0,h6,.inl rfl,k5.trans k6⟩
 rintro τ S5 ⟨fl,y6,fs,rfl,f5,sub,fs0,fs6,hfl',k5⟩
 have K5:Keep [t,g] S S5:=K4.trans (k5.mono (by simp))
 have T5:=T4.keep k5 (by simp) (by simp)
 have lS2:=k2.1
 have lS1:=k1.1
 have lS4:=k4.1
 have lS34:=k3.1
 have hflt:fl ≠ t∧fl ≠ g:=by
  rcases hfl' with z | z
  ·omega
  ·omega
 have e15:=K5.get hl (by simp; omega)
 have e25:S5[he]? = some (.lst ((ds.map Df.hd).map Hd.pv)):=((k3.trans k4).trans k5).get e2' (by simp)
 have e45:=k5.get e4 (by simp)
 simp [f5,-zq0,-zq1,-zq2,-zq3,-zq4,-zq5,-zq6]
 refine pick (f:=Df.pv) (xs:=fs) T5 (by omega) f5 fs0 (by omega) hflt.1 hflt.2 ?_
 intro i q S6 hqf T6 k6 f6 hat
 have hq:=sub q hqf
 have K6:Keep [t,g] S S6:=K5.trans k6
 obtain ⟨nm,ps,rs⟩:=q
 have np:=(pg.hd.nm (nm,ps) (List.mem_map_of_mem hq))
 have pn:=pg.hd.pn (nm,ps) (List.mem_map_of_mem hq)
 have pl4:=pg.hd.pl (nm,ps) (List.mem_map_of_mem hq)
 have dep4:=pg.dep _ hq
 have cnt30:=hc _ hq
 simp only at dep4 cnt30
 simp [f6,hat,Df.pv,-zq0,-zq1,-zq2,-zq3,-zq4,-zq5,-zq6]
 refine lst_wp (by simp) ?_
 intro al S7 e7 k7 g7
 have lk7:=k7.1
 simp [-zq0,-zq1,-zq2,-zq3,-zq4,-zq5,-zq6]
 refine list_wp (xs:=ps.map PV.str) (by simp [itemsP,stL]) ?_
 intro pl S8 e8 k8 g8
 have lk8:=k8.1
 simp [-zq0,-zq1,-zq2,-zq3,-zq4,-zq5,-zq6]
 refine addL_wp (k8.get e7 (by simp)) e8 (by simp; simp at pl4; omega) ?_
 intro ow S9 e9 k9 g9
 have lk9:=k9.1
 have e9':S9[ow]? = some (.lst ((abc3 ++ ps).map PV.str)):=by rw [e9,List.map_append]; rfl
 have hown:∀ x ∈ abc3 ++ ps,Nm x:=fun x hx => by
  rcases List.mem_append.mp hx with z | z
  ·exact abc3_nm x z
  ·exact pn x z
 simp [-zq0,-zq1,-zq2,-zq3,-zq4,-zq5,-zq6]
 refine loose_wp 6 rs S9 _ _ (by omega) (by omega) ?_
 intro ll t' S10 e10 a10 r10 n10 l10 k10
 subst r10
 have sz:=LT.sz_rows a10
 simp [-zq0,-zq1,-zq2,-zq3,-zq4,-zq5,-zq6]
 refine spots_wp 6 t' ll 1 S10 _ _ e10 a10 (by omega) (by omega) (by omega) ?_
 intro sp S11 e11 k11 g11
 have lsp:=LT.spots_len ll t' 0 1
 have kL:=(((k7.trans k8).trans k9).trans k10).trans k11
 have K11:Keep [t,g] S S11:=K6.trans (kL.mono (by simp))
 have T11:=T6.keep kL (by simp) (by simp)
 have e1b:=kL.get (k6.get e15 (by simp; omega)) (by simp)
 have ltE4:=lt_of_get e45
 have ltH:=lt_of_get e2'
 have e2b:=kL.get (k6.get e25 (by simp; omega)) (by simp)
 have e4b:=kL.get (k6.get e45 (by simp; omega)) (by simp)
 have lk6:=k6.1
 have owb:=kL.1
 have e9b:=(k10.trans k11).get e9' (by simp)
 simp [-e_seqS,-zq0,-zq1,-zq2,-zq3,-zq4,-zq5,-zq6]
 refine seq_split (fun τ S' => τ = [some (.loc t),some (.loc l),some (.int 180),some (.int lot),some (.loc he),some (.loc ev),y6,some (.loc fl),some (.loc ow),some (.loc sp),none,none,some (.str nm),some (.tup (stL ps)),some (.tup (Rw.pvs t'.rows)),none,none,none]∧Keep [] S11 S') ?_ ?_
 ·simp [e1b,e4b,-zq0,-zq1,-zq2,-zq3,-zq4,-zq5,-zq6]
  refine ⟨fun _ => ⟨fun hl6 => ⟨fun _ => ?_,fun _ => .refl⟩,fun _ => .refl⟩,fun _ => .refl⟩
  refine acc_map Df.pv (fun d => PV.str d.1) (by intro p hp; simp at hp; subst hp; exact e1b) (by simp; omega) ?_ ?_
  ·intro d hd acc J ha hJ
   refine ⟨_,rfl,?_⟩
   simp [wipeE,stepE_wp,Df.pv,ha,-zq0,-zq1,-zq2,-zq3,-zq4,-zq5,-zq6]
   exact hJ
  refine new_wp ?_
  intro nl S12 e12 k12 g12
  have lk12:=k12.1
  rw [List.nil_append] at e12
  have e12':S12[nl]? = some (.lst ((ds.map (·.1)).map PV.str)):=by rw [e12,List.map_map]; rfl
  have T12:=T11.keep k12 (by simp) (by simp)
  have K12:=K11.trans (k12.mono (M':=[t,g]) (by simp))
  have l11:=K11.1
  simp [-zq0,-zq1,-zq2,-zq3,-zq4,-zq5,-zq6]
  refine name_wp T12 (by omega) e12' (by omega) (by omega) (fun x hx => by
   obtain ⟨d,hd,rfl⟩:=List.mem_map.mp hx
   exact pg.hd.nm d.hd (List.mem_map_of_mem hd)) (by simp; omega) ?_
  intro fr S13 fr1 fr2 fr3 T13 k13
  have lk12:=k12.1
  simp [-zq0,-zq1,-zq2,-zq3,-zq4,-zq5,-zq6]
  refine new_row_wp (ns:=abc3 ++ ps) (hs:=ds.map Df.hd) T13 (by omega) (((k12.mono (M':=[t,g]) (by simp)).trans k13).get e9b (by simp; omega)) (((k12.mono (M':=[t,g]) (by simp)).trans k13).get e2b (by simp; omega)) (by simp [abc3]) (by simp [abc3]; simp at pl4; omega) (by simpa using h0) (by simp; omega) pg.hd.pl (by omega) (by omega) ?_
  intro x S14 x1 x2 x3 x4 T14 k14
  simp [-zq0,-zq1,-zq2,-zq3,-zq4,-zq5,-zq6]
  refine draw_wp T14 (by omega) (by decide) (by decide) ?_
  intro c S15 c0 c1 T15 k15
  have hc3:0 ≤ c∧c ≤ 1000:=by omega
  simp [hc3,-zq0,-zq1,-zq2,-zq3,-zq4,-zq5,-zq6]
  refine draw_wp T15 (by omega) (by decide) (by decide) ?_
  intro k S16 kk0 kk1 T16 k16
  simp [-zq0,-zq1,-zq2,-zq3,-zq4,-zq5,-zq6]
  refine lst_wp (by simp) ?_
  intro zl S17 e17 k17 g17
  have lk17:=k17.1
  have T17:=T16.keep k17 (by simp) (by simp)
  have lk13:=k13.1; have lk14:=k14.1; have lk15:=k15.1; have lk16:=k16.1
  simp [-zq0,-zq1,-zq2,-zq3,-zq4,-zq5,-zq6]
  refine names_wp T17 (by omega) e17 (by omega) (by omega) kk0 (by omega) ?_
  intro nn xs S18 e18 g18 xl xnd xnm xbar T18 k18
  simp [e18,-zq0,-zq1,-zq2,-zq3,-zq4,-zq5,-zq6]
  have ec:(Rw.eachs (List.replicate c.toNat x)).length ≤ 30:=by
   obtain z | z | z:c.toNat = 0 ∨ c.toNat = 1 ∨ c.toNat = 2:=by omega
   all_goals rw [z]; simp [Rw.eachs]; try omega
  have:=h (.dfn fr xs (List.replicate c.toNat x)) S18 (gd_fresh pg hc (by omega) fr1 fr2 xnd xnm (by omega) hown (oks_iff.mpr fun r hr => by rw [List.eq_of_mem_replicate hr]; exact x1) (deps_iff.mpr fun r hr => by rw [List.eq_of_mem_replicate hr]; omega) ec) (T18.up (by omega)) ((((((K12.trans k13).trans k14).trans k15).trans k16).trans (k17.mono (by simp))).trans k18)
  simpa [Deed.pv,stL,pvs_map] using this
 rintro τ S12 ⟨rfl,k12⟩
 have K12:=K11.trans (k12.mono (M':=[t,g]) (by simp))
 have T12:=T11.keep k12 (by simp) (by simp)
 have l11:=K11.1
 have lk12:=k12.1
 have e1c:=k12.get e1b (by simp)
 have e2c:=k12.get e2b (by simp)
 have e4c:=k12.get e4b (by simp)
 have e9c:=k12.get e9b (by simp)
 have e11c:=k12.get e11 (by simp)
 refine seq_split (fun τ S' => τ = [some (.loc t),some (.loc l),some (.int 180),some (.int lot),some (.loc he),some (.loc ev),y6,some (.loc fl),some (.loc ow),some (.loc sp),none,none,some (.str nm),some (.tup (stL ps)),some (.tup (Rw.pvs t'.rows)),none,none,none]∧Keep [] S12 S') ?_ ?_
 ·simp [-zq0,-zq1,-zq2,-zq3,-zq4,-zq5,-zq6]
  refine ⟨fun _ => ?_,fun _ => .refl⟩
  refine draw_wp T12 (by omega) (by decide) (by decide) ?_
  intro c S13 c0 c1 T13 k13
  obtain ⟨cn,rfl⟩:∃ cn:Nat,c = (cn:Int):=⟨c.toNat,by omega⟩
  have q0:cutP (Rw.pvs t'.rows) (some (cn:Int)) none = Rw.pvs (t'.rows.drop cn):=by rw [pvs_map,pvs_map,List.map_drop]; exact PL.cut_drop cn
  simp [q0,-zq0,-zq1,-zq2,-zq3,-zq4,-zq5,-zq6]
  have:=h (.dfn nm ps (t'.rows.drop cn).reverse) S13 (gd_same (k:=cn) pg hc hq) (T13.up (by omega)) (K12.trans k13)
  simpa [Deed.pv,pvs_map] using this
 rintro τ S13 ⟨rfl,k13⟩
 refine seq_split (StG t l he ev fl ow sp lot nm y6 ps t'.rows rows S13) ?_ ?_
 ·have e4d:=k13.get e4c (by simp)
  rw [pvs_map] at e4d
  simp [e4d,-zq0,-zq1,-zq2,-zq3,-zq4,-zq5,-zq6]
  refine accF_wp Rw.pv (fun r => (callN r).map PV.str) (fun S' k => by simp; exact k.get e4d (by simp)) (by
   have:=len_flatMap_le (xs:=rows) (f:=fun r => (callN r).map PV.str) (c:=1) (fun r _ => by rw [List.length_map]; exact callN_len r)
   simp only [List.length_nil]; omega) (fun r hr acc S' J hl k hJ => ⟨_,rfl,?_⟩) ?_
  ·have hJ:=hJ S' k
   rw [stepE_wp]
   cases r with
   | set z v =>
    cases v with
    | call f xs =>
     simp [callN] at hJ hl
     simp [wipeE,Rw.pv,Vl.pv,-zq0,-zq1,-zq2,-zq3,-zq4,-zq5,-zq6]
     exact ⟨by omega,hJ⟩
    | _ =>
     simp [callN] at hJ
     simp [wipeE,Rw.pv,Vl.pv,-zq0,-zq1,-zq2,-zq3,-zq4,-zq5,-zq6]
     exact hJ
   | _ =>
    simp [callN] at hJ
    simp [wipeE,Rw.pv,-zq0,-zq1,-zq2,-zq3,-zq4,-zq5,-zq6]
    exact hJ
  ·intro S14 k14
   refine new_wp ?_
   intro cl S15 f15 k15 g15
   have lk15:=k15.1
   rw [List.nil_append] at f15
   simp [-zq0,-zq1,-zq2,-zq3,-zq4,-zq5,-zq6]
   exact ⟨cl,_,rfl,by rw [f15,List.map_flatMap],k14.trans k15⟩
 rintro τ S14 ⟨cl,x17,rfl,e14c,k14⟩
 refine seq_split (StH t l he ev fl ow sp cl lot nm y6 x17 ps t'.rows 0 S14) ?_ ?_
 ·have hin:=inB_strs (x:=nm) e14c
  simp [hin,-zq0,-zq1,-zq2,-zq3,-zq4,-zq5,-zq6]
  have fin:StH t l he ev fl ow sp cl lot nm y6 x17 ps t'.rows 0 S14 [some (.loc t),some (.loc l),some (.int 180),some (.int lot),some (.loc he),some (.loc ev),y6,some (.loc fl),some (.loc ow),some (.loc sp),some (.loc cl),none,some (.str nm),some (.tup (stL ps)),some (.tup (Rw.pvs t'.rows)),none,none,x17] S14:=⟨rfl,.inl rfl,.refl⟩
  refine ⟨fun _ => ⟨fun _ => fin,fun hm => ⟨fun hn => ?_,fun _ _ _ => fin⟩⟩,fun _ => fin⟩
  refine h (.drop nm) S14 (gd_drop (q:=(nm,ps,t'.rows)) pg hc hq hm fun d hd z xs hz => ?_) (T12.keep (k13.trans k14) (by simp) (by simp) |>.up (by omega)) (K12.trans ((k13.trans k14).mono (by simp)))
  exact hn (.set z (.call nm xs)) (by rw [hrows]; exact List.mem_flatMap.mpr ⟨d,hd,hz⟩) (by simp [callN])
 rintro τ S15 ⟨rfl,_,k15⟩
 have kE:Keep [] S11 S15:=((k12.trans k13).trans k14).trans k15
 have K15:=K11.trans (kE.mono (M':=[t,g]) (by simp))
 have T15:=T11.keep kE (by simp) (by simp)
 have lkE:=kE.1
 have e1d:=kE.get e1b (by simp)
 have e2d:=kE.get e2b (by simp)
 have e4d:=kE.get e4b (by simp)
 have e9d:=kE.get e9b (by simp)
 have e11d:=kE.get e11 (by simp)
 refine seq_split (StH t l he ev fl ow sp cl lot nm y6 x17 ps t'.rows 24 S15) ?_ ?_
 ·simp [-zq0,-zq1,-zq2,-zq3,-zq4,-zq5,-zq6]
  refine lst_wp (by simp) ?_
  intro z1 S16 f16 k16 g16
  have lk16:=k16.1
  have hsp:=k16.get e11d (by simp)
  have h4:=k16.get e4d (by simp)
  simp [hsp,f16,h4,-zq0,-zq1,-zq2,-zq3,-zq4,-zq5,-zq6]
  have K16:=K15.trans (k16.mono (M':=[t,g]) (by simp))
  have T16:=T15.keep k16 (by simp) (by simp)
  refine ⟨fun z => ⟨rfl,.inr ?_,k16⟩,fun nz => tri ?_ fun _ h24 _ => ⟨rfl,.inr ?_,k16⟩⟩
  ·rw [z] at lsp
   simp at lsp; omega
  ·have hpos:0 < (t'.spots ll 0 1).length:=List.length_pos_iff.mpr nz
   refine draw_wp T16 (by omega) (by omega) (by omega) ?_
   intro c S17 c0 c1 T17 k17
   simp [-zq0,-zq1,-zq2,-zq3,-zq4,-zq5,-zq6]
   have hr:rowsE t'.rows .cut (1 + c) = some (chgs REd.cut.F t'.rows (1 + c).toNat):=by unfold rowsE; rw [if_pos ⟨by omega,by omega⟩]
   exact h (.cut nm (1 + c)) S17 (gd_row (e:=.cut) (n:=1 + c) (q:=(nm,ps,t'.rows)) (ns:=[]) pg hc rfl hq rfl (by simp) (by simp [REd.more]) hr (.inl rfl) (Nat.le_trans (chgs_deps (fun r => by simp [REd.F,Rw.deps]) _ _) dep4)) (T17.up (by omega)) (K16.trans k17)
  ·omega
 rintro τ S16 ⟨rfl,hsz,k16⟩
 have h24:(Rw.eachs t'.rows).length ≤ 24:=by omega
 have K16:=K15.trans (k16.mono (M':=[t,g]) (by simp))
 have T16:=T15.keep k16 (by simp) (by simp)
 have lk16:=k16.1
 have e2x:=k16.get e2d (by simp)
 have e9x:=k16.get e9d (by simp)
 have e11x:=k16.get e11d (by simp)
 simp [e11x,-zq0,-zq1,-zq2,-zq3,-zq4,-zq5,-zq6]
 refine draw_wp T16 (by omega) (by omega) (by omega) ?_
 intro c S17 c0 c1 T17 k17
 have lk17:=k17.1
 have lk10:=k10.1
 have lk11:=k11.1
 have lsp':=lt_of_get e11x
 have low':=lt_of_get e9x
 have lhe':=lt_of_get e2x
 have e2y:=k17.get e2x (by simp; omega)
 have e9y:=k17.get e9x (by simp; omega)
 have e11y:=k17.get e11x (by simp; omega)
 have xok:∀ {x:Rw},x.ok (abc3 ++ ps) (ds.map Df.hd)→x.dep ≤ 2→x.each.length ≤ 4→∀ y ∈ [x],y.ok (abc3 ++ ps) (ds.map Df.hd)∧y.dep ≤ 2∧y.each.length ≤ 4:=fun a b c y hy => by rw [List.mem_singleton.mp hy]; exact ⟨a,b,c⟩
 simp [e11y,-zq0,-zq1,-zq2,-zq3,-zq4,-zq5,-zq6]
 refine ⟨fun hgt => ?_,fun hle => ?_⟩
 ·refine new_row_wp (ns:=abc3 ++ ps) (hs:=ds.map Df.hd) T17 (by omega) e9y e2y (by simp [abc3]) (by simp [abc3]; simp at pl4; omega) (by simpa using h0) (by simp; omega) pg.hd.pl (by omega) (by omega) ?_
  intro x S18 x1 x2 x3 x4 T18 k18
  simp [-zq0,-zq1,-zq2,-zq3,-zq4,-zq5,-zq6]
  have hr:rowsE t'.rows (.put x) (1 + c) = some (t'.rows ++ [x]):=by
   unfold rowsE
   rw [if_neg (by omega),if_pos ⟨rfl,by omega⟩]
   rfl
  exact h (.put nm (1 + c) x) S18 (gd_row (e:=.put x) (n:=1 + c) (q:=(nm,ps,t'.rows)) (ns:=abc3 ++ ps) pg hc rfl hq rfl hown (xok x1 x2 x4) hr (.inr h24) (by rw [deps_app]; simp only [Rw.deps]; omega)) (T18.up (by omega)) ((K16.trans k17).trans k18)
 ·refine lst_wp (by simp) ?_
  intro wl S18 f18 k18 g18
  have lk18:=k18.1
  obtain ⟨w,hw,hat2⟩:∃ w:Bool,True∧atI [PV.str (Str.ofString "put"),PV.str (Str.ofString "turn")] (lot % 2) = some (.str (if w = true then Str.ofString "put" else Str.ofString "turn")):=by
   have hm:lot % 2 = 0 ∨ lot % 2 = 1:=by omega
   rcases hm with hm | hm
   ·exact ⟨true,trivial,by rw [hm]; exact atI_0 _ _⟩
   ·exact ⟨false,trivial,by rw [hm]; exact atI_1 _ _ _⟩
  obtain ⟨cn,rfl⟩:∃ cn:Nat,c = (cn:Int):=⟨c.toNat,by omega⟩
  have hcn:cn < (t'.spots ll 0 1).length:=by omega
  obtain ⟨q,hq'⟩:∃ q,(t'.spots ll 0 1)[cn]? = some q:=⟨_,List.getElem?_eq_getElem hcn⟩
  have hat3:atI ((t'.spots ll 0 1).map spP) (cn:Int) = some (spP q):=by rw [PL.atI_get (by simp; omega),List.getElem?_map,hq']; rfl
  have hc1:(1 + (cn:Int) - 1) = (cn:Int):=by omega
  simp [f18,hat2,k18.get e11y (by simp),hc1,hat3,spP,-zq0,-zq1,-zq2,-zq3,-zq4,-zq5,-zq6]
  have lk18:=k18.1
  have T18:=T17.keep k18 (by simp) (by simp)
  refine new_row_wp (ns:=abc3 ++ ps) (hs:=ds.map Df.hd) T18 (by omega) (k18.get e9y (by simp)) (k18.get e2y (by simp)) (by simp [abc3]) (by simp [abc3]; simp at pl4; omega) (by simpa using h0) (by simp; omega) pg.hd.pl (by omega) (by omega) ?_
  intro x S19 x1 x2 x3 x4 T19 k19
  simp [-zq0,-zq1,-zq2,-zq3,-zq4,-zq5,-zq6]
  have K19:=((K16.trans k17).trans (k18.mono (M':=[t,g]) (by simp))).trans k19
  have hin:(1:Int) ≤ 1 + (cn:Int)∧1 + (cn:Int) ≤ ((Rw.eachs t'.rows).length:Nat):=by omega
  have hnat:(1 + (cn:Int)).toNat = cn + 1:=by omega
  cases w with
  | true =>
   have hr:rowsE t'.rows (.put x) (1 + (cn:Int)) = some (chgs (REd.put x).F t'.rows (cn + 1)):=by
    unfold rowsE
    rw [if_pos hin,hnat]
   obtain ⟨δ,q1,q2,q3⟩:=spot_deps (F:=(REd.put x).F) (K:=x.dep) (fun r => by simp only [REd.F,Rw.deps]; omega) t' ll 0 1 (cn + 1) q a10 (by omega) (by simpa using hq')
   have:=h (.put nm (1 + (cn:Int)) x) S19 (gd_row (e:=.put x) (n:=1 + (cn:Int)) (q:=(nm,ps,t'.rows)) (ns:=abc3 ++ ps) pg hc rfl hq rfl hown (xok x1 x2 x4) hr (.inr h24) (by omega)) (T19.up (by omega)) K19
   simpa [Deed.pv] using this
  | false =>
   have hr:rowsE t'.rows (.turn x) (1 + (cn:Int)) = some (chgs (REd.turn x).F t'.rows (cn + 1)):=by
    unfold rowsE
    rw [if_pos hin,hnat]
   obtain ⟨δ,q1,q2,q3⟩:=spot_deps (F:=(REd.turn x).F) (K:=x.dep) (fun r => by simp only [REd.F,Rw.deps]; omega) t' ll 0 1 (cn + 1) q a10 (by omega) (by simpa using hq')
   have:=h (.turn nm (1 + (cn:Int)) x) S19 (gd_row (e:=.turn x) (n:=1 + (cn:Int)) (q:=(nm,ps,t'.rows)) (ns:=abc3 ++ ps) pg hc rfl hq rfl hown (xok x1 x2 x4) hr (.inr h24) (by omega)) (T19.up (by omega)) K19
   simpa [Deed.pv] using this
end K38
namespace K38
open PySem PySem.Spec PyProof.Rows L2 PL
theorem trayT_wp {ns:List Int} (hn:ns.length ≤ 63) {S0:Sto} {P:PV→Sto→Prop} {R:Str→PV→Sto→Prop} (h:∀ t g S,Tray t g 0 S→Keep [] S0 S→S0.length ≤ t→S0.length ≤ g→P (.loc t) S) :
  wp (m_q17 [.fls (ns.map PV.int)] S0) P R:=by
 unfold m_q17
 rw [callS_wp]
 simp [startE,-zq0,-zq1,-zq2,-zq3,-zq4,-zq5,-zq6]
 refine lst_wp (by simp) ?_
 intro g S1 e1 k1 g1
 have lk1:=k1.1
 simp [-zq0,-zq1,-zq2,-zq3,-zq4,-zq5,-zq6]
 refine forL_inv (fun dn rs τ S => ∃ (fold:Int) (gs:List Int) (x3 x4:Option PV),τ = [some (.fls (ns.map PV.int)),some (.int fold),some (.loc g),x3,x4]∧S[g]? = some (.lst (gs.map PV.int))∧0 ≤ fold∧fold < 2305843009213693951∧gs.length ≤ dn.length∧Keep [g] S1 S)
  ⟨_,[],_,_,rfl,by simpa using e1,by decide,by decide,Nat.le_refl _,.refl⟩ ?_ ?_
 ·rintro dn p rs τ S e ⟨fold,gs,x3,x4,rfl,e2,f0,f1,hl,k2⟩
  obtain ⟨n,rfl,_⟩:=map_split e
  have hd:dn.length < 63:=by
   have:=congrArg List.length e
   simp at this; omega
  refine ⟨by simp,_,rfl,?_⟩
  simp [e2,-zq0,-zq1,-zq2,-zq3,-zq4,-zq5,-zq6]
  exact ⟨fun _ => ⟨by omega,gs ++ [(if n < -n then -n else n) - 1000000000000000000],by rw [set_get e2]; simp,by omega,by omega,by simp; omega,k2.trans (.set (by simp))⟩,fun _ => ⟨gs,rfl,by omega,by omega,by omega,k2⟩⟩
 ·rintro τ S ⟨fold,gs,x3,x4,rfl,e2,f0,f1,hl,k2⟩
  refine ⟨by simp,?_⟩
  simp [-zq0,-zq1,-zq2,-zq3,-zq4,-zq5,-zq6]
  refine lst_wp (by simp) ?_
  intro t S3 e3 k3 g3
  have lk3:=k3.1
  simp [-zq0,-zq1,-zq2,-zq3,-zq4,-zq5,-zq6]
  have lg:=lt_of_get e2
  refine h t g S3 ⟨by omega,gs,0,fold,0,e3,k3.get e2 (by simp),f0,f1,by decide,by decide⟩ ?_ ?_ g1
  ·exact ((k1.mono (M':=[g]) (by simp)).trans (k2.trans (k3.mono (by simp)))).mono fun x hx hlt => by simp at hx; omega
  ·have:=k2.1; omega
end K38
namespace K38
open PySem PySem.Spec PyProof.Rows L2 PL
namespace LT
def tl:LT→LT
 | nil => nil
 | one _ _ t => t
 | iff _ _ _ _ _ _ _ _ t => t
theorem tl_at {S:Sto}:∀ {t:LT},t.At S→t.tl.At S
 | nil,_ => trivial
 | one _ _ _,h => h.2.2
 | iff _ _ _ _ _ _ _ _ _,h => h.2.2.2.2.2
theorem tl_items:∀ {t:LT},t ≠ nil→∃ p,t.items = p :: t.tl.items
 | nil,h => absurd rfl h
 | one il _ _,_ => ⟨.loc il,rfl⟩
 | iff il _ _ _ _ _ _ _ _,_ => ⟨.loc il,rfl⟩
theorem tl_rows:∀ {t:LT} {r:Rw} {rs:List Rw},t.rows = r :: rs→t.tl.rows = rs
 | nil,_,_,h => by simp [rows] at h
 | one _ _ _,_,_,h => by simp only [rows,List.cons.injEq] at h; exact h.2
 | iff _ _ _ _ _ _ _ _ _,_,_,h => by simp only [rows,List.cons.injEq] at h; exact h.2
end LT
def REd.op (e:REd) (q:PV) (xs:List PV) (j:Nat):List PV:=match e with
 | .cut => xs.eraseIdx j
 | .put _ => xs.take j ++ q :: xs.drop j
 | .turn _ => xs.set j q
def REd.g (e:REd) (u:LT) (t:LT):LT:=match e with
 | .cut => t.tl
 | .put _ => u.app t
 | .turn _ => u.app t.tl
theorem op_g {e:REd} {q:PV} {u:LT} (hu:e = .cut ∨ u.items = [q]) (pre:List PV) (t:LT) (h:t ≠ .nil):e.op q (pre ++ t.items) pre.length = pre ++ (e.g u t).items:=by
 obtain ⟨p,hp⟩:=LT.tl_items h
 cases e with
 | cut => simp only [REd.op,REd.g,hp]; rw [List.eraseIdx_append_of_length_le (Nat.le_refl _)]; simp
 | put x =>
  have hu:=hu.resolve_left (by simp)
  simp only [REd.op,REd.g,LT.items_app,hu]; simp
 | turn x =>
  have hu:=hu.resolve_left (by simp)
  simp only [REd.op,REd.g,LT.items_app,hu,hp]; simp
theorem g_rows {e:REd} {u:LT} (hu:e = .cut ∨ u.rows = e.more) (t:LT) (r:Rw) (rs:List Rw) (h:t.rows = r :: rs):(e.g u t).rows = e.F r ++ rs:=by
 have ht:=LT.tl_rows h
 cases e with
 | cut => simp only [REd.g,REd.F,ht]; rfl
 | put x =>
  have hu:=hu.resolve_left (by simp)
  simp [REd.g,REd.F,LT.rows_app,REd.more,h,hu]
 | turn x =>
  have hu:=hu.resolve_left (by simp)
  simp [REd.g,REd.F,LT.rows_app,REd.more,ht,hu]
theorem g_at {e:REd} {u t:LT} {S:Sto} (hu:e = .cut ∨ u.At S) (ht:t.At S):(e.g u t).At S:=by
 cases e with
 | cut => exact LT.tl_at ht
 | put x => exact LT.at_app.mpr ⟨hu.resolve_left (by simp),ht⟩
 | turn x => exact LT.at_app.mpr ⟨hu.resolve_left (by simp),LT.tl_at ht⟩
def spotsE (e:REd) (n:Int) (l:Nat) (t:LT):List (Nat × Nat × Nat):=t.spots l 0 1 ++ if e.isPut = true∧n = (t.sz:Int) + 1 then [(l,t.items.length,1)] else []
theorem op_fin {e:REd} {t u:LT} {l:Nat} {q:PV} {n:Int} {z:Nat × Nat × Nat} {S:Sto} (ht:t.At S) (hl:S[l]? = some (.lst t.items)) (nd:(l :: t.locs).Nodup)
  (hu:e = .cut ∨ (u.items = [q]∧u.rows = e.more∧u.At S∧∀ x ∈ u.locs,x ∉ l :: t.locs)) (h1:1 ≤ n) (hz:(spotsE e n l t)[n.toNat - 1]? = some z) :
  ∃ xs T rs',S[z.1]? = some (.lst xs)∧xs.length ≤ t.sz∧z.2.1 ≤ xs.length∧(e.isPut = false→z.2.1 < xs.length)∧z.1 ∈ l :: t.locs∧rowsE t.rows e n = some rs'∧LT.rows T = rs'∧(S.set z.1 (.lst (e.op q xs z.2.1)))[l]? = some (.lst T.items)∧T.At (S.set z.1 (.lst (e.op q xs z.2.1))):=by
 have sz:=LT.sz_rows ht
 have sl:=LT.spots_len l t 0 1
 by_cases h2:n.toNat ≤ t.sz
 ·have hz':(t.spots l 0 1)[n.toNat - 1]? = some z:=by
   unfold spotsE at hz
   rwa [List.getElem?_append_left (by omega)] at hz
  obtain ⟨l',j,dq,xs,s1,s2,s3,s3',s4,s5,s6⟩:=LT.edit_at (g:=e.g u) (op:=e.op q) (L:=l :: t.locs) (S:=S) (fun pre t h => op_g (hu.imp id fun h => h.1) pre t h)
   (fun v S' M hM k hv => g_at (hu.imp id fun h => h.2.2.1.keep k fun x hx z => h.2.2.2 x hx (by rw [List.mem_singleton.mp z]; exact hM)) hv) t l [] 1 n.toNat ht (by simpa using hl) nd (fun x hx => hx) (by omega) h2
  rw [List.length_nil,hz'] at s1
  cases s1
  refine ⟨xs,t.ch (e.g u) n.toNat,_,s2,by simpa using s3',by simp only; omega,fun _ => s3,s4,?_,LT.rows_ch (F:=e.F) (g_rows (hu.imp id fun h => h.2.1)) t n.toNat (by omega) ht,by simpa using s5,s6⟩
  unfold rowsE
  rw [if_pos ⟨h1,by omega⟩]
 ·by_cases h3:e.isPut = true∧n = (t.sz:Int) + 1
  ·unfold spotsE at hz
   rw [if_pos h3,List.getElem?_append_right (by omega),sl] at hz
   have:n.toNat - 1 - t.sz = 0:=by omega
   rw [this] at hz
   simp only [List.getElem?_cons_zero,Option.some.injEq] at hz
   subst hz
   obtain ⟨h4,h5⟩:=h3
   cases e with
   | cut => simp [REd.isPut] at h4
   | turn x => simp [REd.isPut] at h4
   | put x =>
    obtain ⟨u1,u2,u3,u4⟩:=hu.resolve_left (by simp)
    have k:Keep [l] S (S.set l (.lst (REd.op (.put x) q t.items t.items.length))):=.set (by simp)
    refine ⟨t.items,t.app u,t.rows ++ [x],hl,t.items_sz,Nat.le_refl _,fun z => by simp [REd.isPut] at z,by simp,?_,by rw [LT.rows_app,u2]; rfl,?_,LT.at_app.mpr ⟨ht.keep k fun y hy z => (List.nodup_cons.mp nd).1 (by rw [List.mem_singleton.mp z] at hy; exact hy),u3.keep k fun y hy z => u4 y hy (by rw [List.mem_singleton.mp z]; simp)⟩⟩
    ·unfold rowsE
     rw [if_neg (by omega),if_pos ⟨rfl,by omega⟩]; rfl
    ·rw [set_get hl,LT.items_app,u1]; simp [REd.op]
  ·exfalso
   unfold spotsE at hz
   rw [if_neg h3,List.append_nil,List.getElem?_eq_none (by omega)] at hz
   cases hz
theorem spot_lst {e:REd} {t:LT} {l:Nat} {n:Int} {z:Nat × Nat × Nat} {S:Sto} (ht:t.At S) (hl:S[l]? = some (.lst t.items)) (nd:(l :: t.locs).Nodup) (h1:1 ≤ n) (hz:(spotsE e n l t)[n.toNat - 1]? = some z):∃ xs,S[z.1]? = some (.lst xs):=by
 have sl:=LT.spots_len l t 0 1
 by_cases h2:n.toNat ≤ t.sz
 ·have hz':(t.spots l 0 1)[n.toNat - 1]? = some z:=by
   unfold spotsE at hz
   rwa [List.getElem?_append_left (by omega)] at hz
  obtain ⟨l',j,dq,xs,s1,s2,_⟩:=LT.edit_at (g:=id) (op:=fun xs _ => xs) (L:=l :: t.locs) (S:=S) (fun pre t h => rfl) (fun v S' M hM k hv => hv) t l [] 1 n.toNat ht (by simpa using hl) nd (fun x hx => hx) (by omega) h2
  rw [List.length_nil,hz'] at s1
  cases s1
  exact ⟨xs,s2⟩
 ·unfold spotsE at hz
  rw [List.getElem?_append_right (by omega)] at hz
  split at hz
  ·have hm:=List.mem_of_getElem? hz
   rw [List.mem_singleton] at hm
   subst hm
   exact ⟨_,hl⟩
  ·simp at hz
section
variable {S:Sto} {P:PV→Sto→Prop} {R:Str→PV→Sto→Prop}
theorem law_rows_wp {rs:List Rw} {e:REd} {n:Int} {D:Str} (hd:Rw.deps rs < 6) (hl:(Rw.eachs rs).length ≤ 100) (hx:∀ x ∈ e.more,x.dep ≤ 2∧x.each.length ≤ 100) (hd':∀ rs',rowsE rs e n = some rs'→Rw.deps rs' < 6)
  (h:∀ S',Keep [] S S'→P (match rowsE rs e n with | some rs' => .tup (Rw.pvs rs') | none => .non) S'):wp (m_q1 [.tup (Rw.pvs rs),e.pv D n] S) P R:=by
 unfold m_q1
 rw [callS_wp]
 simp [startE,-zq0,-zq1,-zq2,-zq3,-zq4,-zq5,-zq6]
 refine loose_wp 6 rs S _ _ hd (by omega) ?_
 intro l t S1 e1 a1 r1 n1 l1 k1
 subst r1
 have sz1:=LT.sz_rows a1
 simp [-zq0,-zq1,-zq2,-zq3,-zq4,-zq5,-zq6]
 refine spots_wp 6 t l 1 S1 _ _ e1 a1 hd (by omega) (by omega) ?_
 intro sp S2 e2 k2 g2
 have lsp:=LT.spots_len l t 0 1
 have w1:(e.word = Str.ofString "put") = (e.isPut = true):=by cases e <;> simp [REd.word,REd.isPut]
 simp [REd.pv,e2,-e_seqS,-zq0,-zq1,-zq2,-zq3,-zq4,-zq5,-zq6]
 have ll2:=k2.get e1 (by simp)
 have lsl:=lt_of_get e2
 have k2l:=k2.1
 have lt1:∀ x ∈ l :: t.locs,x < S1.length:=fun x hx => by
  rcases List.mem_cons.mp hx with rfl | hx
  ·exact lt_of_get e1
  ·exact a1.lt x hx
 refine seq_split (fun τ S' => S' = S2∧τ = [some (.tup (Rw.pvs t.rows)),some (.tup (.str e.word :: .str D :: .int n :: Rw.pvs e.more)),some (.loc l),some (.loc sp),some (.int n),none,none,none]) (by simp [-zq0,-zq1,-zq2,-zq3,-zq4,-zq5,-zq6]) ?_
 rintro τ S2' ⟨rfl,rfl⟩
 refine seq_split (fun τ S' => τ = [some (.tup (Rw.pvs t.rows)),some (.tup (.str e.word :: .str D :: .int n :: Rw.pvs e.more)),some (.loc l),some (.loc sp),some (.int n),none,none,none]∧S'[sp]? = some (.lst ((spotsE e n l t).map spP))∧Keep [sp] S2' S') ?_ ?_
 ·by_cases hpt:e.isPut = true∧n = (t.sz:Int) + 1
  ·have hs:(t.spots l 0 1).map spP ++ [PV.tup [.loc l,.int (t.items.length:Int),.int 1]] = (spotsE e n l t).map spP:=by unfold spotsE; rw [if_pos hpt]; simp [spP]
   obtain ⟨q1,q2⟩:=hpt
   simp [w1,e2,lsp,q1,q2,ll2,-zq0,-zq1,-zq2,-zq3,-zq4,-zq5,-zq6]
   rw [q2] at hs
   rw [hs]
   exact ⟨by omega,set_get e2,.set (by simp)⟩
  ·have hs:(t.spots l 0 1).map spP = (spotsE e n l t).map spP:=by unfold spotsE; rw [if_neg hpt,List.append_nil]
   rw [hs] at e2
   simp [w1,e2,-zq0,-zq1,-zq2,-zq3,-zq4,-zq5,-zq6]
   have ls:(spotsE e n l t).length = t.sz:=by unfold spotsE; rw [if_neg hpt,List.append_nil,lsp]
   exact ⟨fun c1 => ⟨fun c2 => absurd ⟨c1,by rw [c2,ls]⟩ hpt,fun _ => .refl⟩,fun _ => .refl⟩
 rintro τ S3 ⟨rfl,e3,k3⟩
 have hsl:(spotsE e n l t).length ≤ 1000:=by unfold spotsE; rw [List.length_append,lsp]; split <;> simp <;> omega
 have K3:Keep [] S S3:=((k1.trans k2).mono (M':=[sp]) (by simp)).trans k3 |>.mono fun x hx hlt => by simp at hx; have:=k1.1; omega
 refine seq_split (fun τ S' => S' = S3∧1 ≤ n∧n ≤ ((spotsE e n l t).length:Nat)∧τ = [some (.tup (Rw.pvs t.rows)),some (.tup (.str e.word :: .str D :: .int n :: Rw.pvs e.more)),some (.loc l),some (.loc sp),some (.int n),none,none,none]) ?_ ?_
 ·simp [e3,-zq0,-zq1,-zq2,-zq3,-zq4,-zq5,-zq6]
  have no:¬ (1 ≤ n∧n ≤ ((spotsE e n l t).length:Nat))→P .non S3:=fun c => by
   have:=h S3 K3
   have hn:rowsE t.rows e n = none:=by
    unfold rowsE
    rw [if_neg,if_neg]
    ·rintro ⟨c1,c2⟩
     refine c ⟨by omega,?_⟩
     unfold spotsE
     rw [if_pos ⟨c1,by omega⟩]
     simp; omega
    ·rintro ⟨c1,c2⟩
     refine c ⟨c1,?_⟩
     unfold spotsE
     rw [List.length_append]; omega
   rw [hn] at this
   exact this
  exact ⟨fun c1 => ⟨fun c2 => no (by omega),fun c2 => ⟨c1,c2⟩⟩,fun c1 => no (by omega)⟩
 rintro τ S3' ⟨rfl,c1,c2,rfl⟩
 obtain ⟨z,hz⟩:∃ z,(spotsE e n l t)[n.toNat - 1]? = some z:=⟨_,List.getElem?_eq_getElem (by omega)⟩
 have hat:atI ((spotsE e n l t).map spP) (n - 1) = some (spP z):=by
  obtain ⟨y,h1,h2,_⟩:=atI_nat (xs:=(spotsE e n l t).map spP) (i:=n - 1) (by omega) (by simp; omega)
  rw [h1,← h2,List.getElem?_map]
  have:(n - 1).toNat = n.toNat - 1:=by omega
  rw [this,hz]; rfl
 have a3:t.At S3':=a1.keep ((k2.mono (M':=[sp]) (by simp)).trans k3) fun x hx z => by have:=lt1 x (by simp [hx]); rw [List.mem_singleton.mp z] at this; omega
 have e3l:S3'[l]? = some (.lst t.items):=((k2.mono (M':=[sp]) (by simp)).trans k3).get e1 (by have:=lt1 l (by simp); simp; omega)
 obtain ⟨xs0,hxs0⟩:=spot_lst a3 e3l n1 c1 hz
 have fin:∀ (u:LT) (q:PV) S4,Keep [] S3' S4→(e = .cut ∨ (u.items = [q]∧u.rows = e.more∧u.At S4∧∀ x ∈ u.locs,x ∉ l :: t.locs))→∃ xs,S4[z.1]? = some (.lst xs)∧xs.length ≤ t.sz∧z.2.1 ≤ xs.length∧(e.isPut = false→z.2.1 < xs.length)∧∀ (P':PV→Sto→Prop) (R':Str→PV→Sto→Prop),(∀ v S',P v S'→P' v S')→wp (m_q14 6 [.loc l] (S4.set z.1 (.lst (e.op q xs z.2.1)))) P' R':=by
  intro u q S4 k4 hu
  obtain ⟨xs,T,rs',f1,f2,f3,f4,f5,f6,f7,f8,f9⟩:=op_fin (a3.keep k4 (by simp)) (k4.get e3l (by simp)) n1 hu c1 hz
  have fd:=hd' rs' f6
  have fz:=LT.sz_rows f9
  rw [← f7] at fd
  have few:(Rw.eachs rs').length ≤ 300:=by
   unfold rowsE at f6
   have hF:∀ r,(Rw.eachs (e.F r)).length ≤ r.each.length + 100:=fun r => by
    cases e with
    | cut => simp [REd.F,Rw.eachs]
    | put x => have:=(hx x (by simp [REd.more])).2; simp [REd.F,Rw.eachs]; omega
    | turn x => have:=(hx x (by simp [REd.more])).2; simp [REd.F,Rw.eachs]; omega
   split at f6
   ·cases f6
    have:=chgs_few hF t.rows n.toNat
    omega
   ·split at f6
    ·cases f6
     rw [eachs_app,List.length_append]
     cases e with
     | cut => simp [REd.more,Rw.eachs]; omega
     | put x => have:=(hx x (by simp [REd.more])).2; simp [REd.more,Rw.eachs]; omega
     | turn x => have:=(hx x (by simp [REd.more])).2; simp [REd.more,Rw.eachs]; omega
    ·cases f6
  refine ⟨xs,f1,f2,f3,f4,fun P' R' hP => bound_wp 6 T l _ _ _ f8 f9 fd (by rw [fz,f7]; omega) fun S' k' => ?_⟩
  have kk:Keep [z.1] S4 (S4.set z.1 (.lst (e.op q xs z.2.1))):=.set (by simp)
  have hl1:=l1 z.1 f5
  have:=h S' (((((K3.trans k4).mono (M':=[z.1]) (by simp)).trans kk).trans (k'.mono (by simp))).mono fun x hx hlt => by simp at hx; omega)
  rw [f6] at this
  rw [f7]
  exact hP _ _ this
 have hat':atI ((spotsE e n l t).map spP) (n - 1) = some (.tup [.loc z.1,.int (z.2.1:Int),.int (z.2.2:Int)]):=hat
 clear hat
 simp [e3,hat',-zq0,-zq1,-zq2,-zq3,-zq4,-zq5,-zq6]
 have hix:∀ m:Nat,z.2.1 < m→ixN m (z.2.1:Int) = some z.2.1:=fun m hm => by
  unfold ixN
  rw [if_pos (by omega),if_pos (by omega)]; simp
 have c3:∀ a b c d:PV,cutP [a,b,c,d] (some 3) none = [d]:=fun a b c d => by
  have:=cut_drop (xs:=[a,b,c,d]) 3
  simpa using this
 have new:∀ (x:Rw),e.more = [x]→∀ (P':PV→Sto→Prop),(∀ (u:LT) (l2:Nat) (q:PV) S4,S4[l2]? = some (.lst [q])→Keep [] S3' S4→(e = .cut ∨ (u.items = [q]∧u.rows = e.more∧u.At S4∧∀ x ∈ u.locs,x ∉ l :: t.locs))→P' (.loc l2) S4)→wp (m_q9 6 [.tup [x.pv]] S3') P' R:=fun x hxm P' hP => by
  obtain ⟨x1,x2⟩:=hx x (by rw [hxm]; simp)
  refine loose_wp 6 [x] S3' P' R (by simp only [Rw.deps]; omega) (by simp only [Rw.eachs,List.length_append,List.length_nil]; omega) ?_
  intro l2 u S4 e4 a4 r4 n4 ls4 k4
  obtain ⟨q,hq⟩:∃ q,u.items = [q]:=by
   have:=u.items_rows
   rw [r4] at this
   exact List.length_eq_one_iff.mp (by simpa using this)
  rw [hq] at e4
  refine hP u l2 q S4 e4 k4 (.inr ⟨hq,by rw [r4,hxm],a4,fun y hy hy2 => ?_⟩)
  have h1:=ls4 y (by simp [hy])
  have h2:=lt1 y hy2
  have h3:=k3.1
  omega
 cases e with
 | cut =>
  obtain ⟨xs,f1,f2,f3,f4,f5⟩:=fin .nil .non S3' .refl (.inl rfl)
  have f4:=f4 rfl
  have f6:=List.getElem?_eq_getElem f4
  simp [REd.word,f1,hix _ f4,f6,-zq0,-zq1,-zq2,-zq3,-zq4,-zq5,-zq6]
  exact ⟨by omega,f5 _ _ fun v S' h => by simp [-zq0,-zq1,-zq2,-zq3,-zq4,-zq5,-zq6]; exact h⟩
 | put x =>
  simp [REd.word,hxs0,REd.more,Rw.pvs,c3,-zq0,-zq1,-zq2,-zq3,-zq4,-zq5,-zq6]
  refine new x rfl _ fun u l2 q S4 e4 k4 hu => ?_
  obtain ⟨xs,f1,f2,f3,f4,f5⟩:=fin u q S4 k4 hu
  simp [e4,f1,-zq0,-zq1,-zq2,-zq3,-zq4,-zq5,-zq6]
  exact ⟨by omega,f5 _ _ fun v S' h => by simp [-zq0,-zq1,-zq2,-zq3,-zq4,-zq5,-zq6]; exact h⟩
 | turn x =>
  simp [REd.word,REd.more,Rw.pvs,c3,-zq0,-zq1,-zq2,-zq3,-zq4,-zq5,-zq6]
  refine new x rfl _ fun u l2 q S4 e4 k4 hu => ?_
  obtain ⟨xs,f1,f2,f3,f4,f5⟩:=fin u q S4 k4 hu
  have f4:=f4 rfl
  simp [e4,f1,hix _ f4,-zq0,-zq1,-zq2,-zq3,-zq4,-zq5,-zq6]
  exact f5 _ _ fun v S' h => by simp [-zq0,-zq1,-zq2,-zq3,-zq4,-zq5,-zq6]; exact h
theorem law_edited_wp {ds:List Df} {l:Nat} {dd:Deed} (hl:S[l]? = some (.lst (ds.map Df.pv))) (few:ds.length ≤ 100) (hd:∀ d ∈ ds,Rw.deps d.2.2 < 6∧(Rw.eachs d.2.2).length ≤ 100) (hx:∀ x ∈ dd.xs,x.dep ≤ 2∧x.each.length ≤ 100)
  (hd':∀ es,edE ds dd = some es→∀ d ∈ es,Rw.deps d.2.2 < 6)
  (h:∀ es,edE ds dd = some es→∀ m S',S'[m]? = some (.lst (es.map Df.pv))→Keep [] S S'→S.length ≤ m→P (.loc m) S') (hno:edE ds dd = none→∀ S',Keep [] S S'→P .non S'):wp (m_q5 [.loc l,dd.pv] S) P R:=by
 unfold m_q5
 rw [callS_wp]
 simp [startE,hl,-zq0,-zq1,-zq2,-zq3,-zq4,-zq5,-zq6]
 refine acc_map Df.pv (fun d => PV.str d.1) (by intro p hp; simp at hp; subst hp; exact hl) (by simp; omega) ?_ ?_
 ·intro d hd acc J ha hJ
  refine ⟨_,rfl,?_⟩
  simp [wipeE,stepE_wp,Df.pv,ha,-zq0,-zq1,-zq2,-zq3,-zq4,-zq5,-zq6]
  exact hJ
 refine new_wp ?_
 intro il S1 e1 k1 g1
 have lk1:=k1.1
 rw [List.nil_append] at e1
 have hl1:=k1.get hl (by simp)
 have e1':S1[il]? = some (.lst ((ds.map (·.1)).map PV.str)):=by rw [e1,List.map_map]; rfl
 obtain ⟨b,hb,hin'⟩:∃ b,(b = true↔dd.ti ∈ ds.map (·.1))∧∀ S',S'[il]? = some (.lst ((ds.map (·.1)).map PV.str))→inB (.str dd.ti) (.loc il) S' = some b:=⟨decide (dd.ti ∈ ds.map (·.1)),by simp only [decide_eq_true_eq],fun S' e => inB_strs e⟩
 have hin:=hin' S1 e1'
 have c2:∀ (a b:PV) (r:List PV),cutP (a :: b :: r) none (some 2) = [a,b]:=fun a b r => by
  have:=cut_take (xs:=a :: b :: r) 2
  simpa using this
 simp [deed_pv,c2,-zq0,-zq1,-zq2,-zq3,-zq4,-zq5,-zq6]
 have tk:∀ k:Nat,cutP (ds.map Df.pv) none (some (k:Int)) = (ds.take k).map Df.pv:=fun k => by rw [cut_take,List.map_take]
 have dr:∀ k:Nat,cutP (ds.map Df.pv) (some ((k:Int) + 1)) none = (ds.drop (k + 1)).map Df.pv:=fun k => by
  have e:((k + 1:Nat):Int) = (k:Int) + 1:=by omega
  rw [← e,cut_drop,List.map_drop]
 cases hre:dd.re with
 | some en =>
  obtain ⟨e,n⟩:=en
  obtain ⟨w1,w2,w3,w4⟩:=re_eqs hre
  have hee:=edE_re (ds:=ds) hre
  have hxe:∀ x ∈ e.more,x.dep ≤ 2∧x.each.length ≤ 100:=by rw [re_xs hre]; exact hx
  rw [w1,w2]
  generalize dd.ti = T at *
  cases b with
  | false =>
   have c:T ∉ ds.map (·.1):=fun q => by have:=hb.mpr q; cases this
   simp [w3,w4,hin,-zq0,-zq1,-zq2,-zq3,-zq4,-zq5,-zq6]
   exact hno (by rw [hee,find_none.mpr c]; rfl) S1 k1
  | true =>
   have c:T ∈ ds.map (·.1):=hb.mp rfl
   obtain ⟨q,hq⟩:∃ q,ds.find? (fun d => decide (d.1 = T)) = some q:=by
    cases hf:ds.find? fun d => decide (d.1 = T) with
    | none => exact absurd c (find_none.mp hf)
    | some q => exact ⟨q,rfl⟩
   obtain ⟨as,bs,hds,hqT,hnt⟩:=find_split hq
   have hI:∀ S',S'[il]? = some (.lst (ds.map fun d => PV.str d.1))→lindexP (.loc il) [.str T] S' = some (.int (as.length:Int),S'):=fun S' e => by
    rw [lindexP_loc,e]
    simp only [strsP_comp (fun d:Df => d.1) ds,Option.bind_some,strs_ix hds hqT hnt,Option.map_some]
   have hqm:q ∈ ds:=List.mem_of_find?_eq_some hq
   obtain ⟨hdq,hlq⟩:=hd q hqm
   have hlen:as.length < ds.length:=by rw [hds]; simp
   have hat:atI (ds.map Df.pv) (as.length:Int) = some q.pv:=by
    obtain ⟨y,h1,h2,_⟩:=atI_nat (xs:=ds.map Df.pv) (i:=(as.length:Int)) (by omega) (by simp; omega)
    rw [h1]
    simp only [Int.toNat_natCast] at h2
    rw [← h2,hds]; simp
   obtain ⟨t0,ps0,rs0⟩:=q
   simp only at hqT hdq hlq
   subst hqT
   simp [w3,w4,hin,e1,-lindexP_loc,-zq0,-zq1,-zq2,-zq3,-zq4,-zq5,-zq6]
   rw [hI S1 e1]
   simp [w4,hl1,hat,Df.pv,-zq0,-zq1,-zq2,-zq3,-zq4,-zq5,-zq6]
   refine law_rows_wp (e:=e) (n:=n) (D:=t0) hdq hlq hxe (fun rs' hr => ?_) fun S2 k2 => ?_
   ·have hes:edE ds dd = some (setD t0 rs' ds):=by rw [hee,hq]; simp [hr]
    refine hd' _ hes (t0,ps0,rs') ?_
    rw [hds,setD_at (T:=t0) (q:=(t0,ps0,rs0)) rfl hnt]
    simp
   ·have K2:=k1.trans k2
    cases hr:rowsE rs0 e n with
    | none =>
     simp [-zq0,-zq1,-zq2,-zq3,-zq4,-zq5,-zq6]
     exact hno (by rw [hee,hq]; simp [hr]) S2 K2
    | some rs' =>
     have hes:edE ds dd = some (setD t0 rs' ds):=by rw [hee,hq]; simp [hr]
     have hl2:=k2.get hl1 (by simp)
     simp [hl2,-zq0,-zq1,-zq2,-zq3,-zq4,-zq5,-zq6]
     refine slL_wp hl2 ?_
     intro m1 S3 e3 k3 g3
     have lk3:=k3.1
     rw [tk] at e3
     simp [k3.get hl2 (by simp),hat,Df.pv,-zq0,-zq1,-zq2,-zq3,-zq4,-zq5,-zq6]
     refine lst_wp (by simp) ?_
     intro m2 S4 e4 k4 g4
     have lk4:=k4.1
     simp [-zq0,-zq1,-zq2,-zq3,-zq4,-zq5,-zq6]
     refine addL_wp (k4.get e3 (by simp)) e4 (by simp; omega) ?_
     intro m3 S5 e5 k5 g5
     have lk5:=k5.1
     have hl5:=((k3.trans k4).trans k5).get hl2 (by simp)
     simp [hl5,-zq0,-zq1,-zq2,-zq3,-zq4,-zq5,-zq6]
     refine slL_wp hl5 ?_
     intro m4 S6 e6 k6 g6
     have lk6:=k6.1
     rw [dr] at e6
     simp [-zq0,-zq1,-zq2,-zq3,-zq4,-zq5,-zq6]
     refine addL_wp (k6.get e5 (by simp)) e6 (by simp; omega) ?_
     intro m5 S7 e7 k7 g7
     have lk7:=k7.1
     simp [-zq0,-zq1,-zq2,-zq3,-zq4,-zq5,-zq6]
     have K7:Keep [] S S7:=((((K2.trans k3).trans k4).trans k5).trans k6).trans k7
     have l6:=(((((K2.trans k3).trans k4).trans k5).trans k6)).1
     refine h _ hes m5 S7 ?_ K7 (by omega)
     rw [e7,hds,setD_at (T:=t0) (q:=(t0,ps0,rs0)) rfl hnt]
     simp [Df.pv]
 | none =>
  cases dd with
  | dfn T ps rs =>
   simp only [Deed.ti,Deed.wd,Deed.mr] at hin hin' hb ⊢
   simp [hl1,-zq0,-zq1,-zq2,-zq3,-zq4,-zq5,-zq6]
   refine acc_map Df.pv (fun d => Df.pv (if d.1 = T then (T,ps,rs) else d)) (by intro p hp; simp at hp; subst hp; exact hl1) (by simp; omega) ?_ ?_
   ·intro d hd acc J ha hJ
    refine ⟨_,rfl,?_⟩
    by_cases c:d.1 = T
    ·simp [wipeE,stepE_wp,Df.pv,c,ha,-zq0,-zq1,-zq2,-zq3,-zq4,-zq5,-zq6]
     simpa [c,Df.pv] using hJ
    ·simp [wipeE,stepE_wp,Df.pv,c,ha,-zq0,-zq1,-zq2,-zq3,-zq4,-zq5,-zq6]
     simpa [c,Df.pv] using hJ
   refine new_wp ?_
   intro ql S4 e4 k4 g4
   have lk4:=k4.1
   rw [List.nil_append] at e4
   simp [-zq0,-zq1,-zq2,-zq3,-zq4,-zq5,-zq6]
   refine lst_wp (by simp) ?_
   intro rl S5 e5 k5 g5
   have lk5:=k5.1
   have i5:inB (.str T) (.loc il) S5 = some b:=hin' S5 (k5.get (k4.get e1' (by simp)) (by simp))
   simp [i5,-zq0,-zq1,-zq2,-zq3,-zq4,-zq5,-zq6]
   have hn:((if b = false then (1:Int) else 0)) = ((if b = false then 1 else 0:Nat):Int):=by split <;> rfl
   rw [hn]
   refine mulLr_wp e5 (by split <;> omega) ?_
   intro ul S6 e6 k6 g6
   have lk6:=k6.1
   simp [-zq0,-zq1,-zq2,-zq3,-zq4,-zq5,-zq6]
   refine addL_wp ((k5.trans k6).get e4 (by simp)) e6 (by simp; split <;> omega) ?_
   intro vl S7 e7 k7 g7
   have lk7:=k7.1
   have hes:edE ds (.dfn T ps rs) = some (ds.map (fun d => if d.1 = T then (T,ps,rs) else d) ++ if T ∈ ds.map (·.1) then [] else [(T,ps,rs)]):=rfl
   have e7':S7[vl]? = some (.lst ((ds.map (fun d => if d.1 = T then (T,ps,rs) else d) ++ if T ∈ ds.map (·.1) then [] else [(T,ps,rs)]).map Df.pv)):=by
    rw [e7,List.map_append,List.map_map]
    by_cases c:T ∈ ds.map (·.1)
    ·have hb1:b = true:=hb.mpr c
     subst hb1
     rw [if_pos c]; simp [Function.comp_def]
    ·have hb1:b = false:=by cases b; rfl; exact absurd (hb.mp rfl) c
     subst hb1
     rw [if_neg c]; simp [Function.comp_def,Df.pv]
   have l4:=(((k1.trans k4).trans k5).trans k6).1
   simp [-zq0,-zq1,-zq2,-zq3,-zq4,-zq5,-zq6]
   exact h _ hes vl S7 e7' ((((k1.trans k4).trans k5).trans k6).trans k7) (by omega)
  | drop T =>
   simp only [Deed.ti,Deed.wd,Deed.mr] at hin hin' hb ⊢
   cases b with
   | false =>
    have c:T ∉ ds.map (·.1):=fun q => by have:=hb.mpr q; cases this
    simp [hin,-zq0,-zq1,-zq2,-zq3,-zq4,-zq5,-zq6]
    exact hno (by show (if T ∈ ds.map (·.1) then _ else _) = none; rw [if_neg c]) S1 k1
   | true =>
    have c:T ∈ ds.map (·.1):=hb.mp rfl
    have hes:edE ds (.drop T) = some (dropD T ds):=by show (if T ∈ ds.map (·.1) then _ else _) = _; rw [if_pos c]
    obtain ⟨q,hq⟩:∃ q,ds.find? (fun d => decide (d.1 = T)) = some q:=by
     cases hf:ds.find? fun d => decide (d.1 = T) with
     | none => exact absurd c (find_none.mp hf)
     | some q => exact ⟨q,rfl⟩
    obtain ⟨as,bs,hds,hqT,hnt⟩:=find_split hq
    have hI:∀ S',S'[il]? = some (.lst (ds.map fun d => PV.str d.1))→lindexP (.loc il) [.str T] S' = some (.int (as.length:Int),S'):=fun S' e => by
     rw [lindexP_loc,e]
     simp only [strsP_comp (fun d:Df => d.1) ds,Option.bind_some,strs_ix hds hqT hnt,Option.map_some]
    simp [hin,e1,-lindexP_loc,-zq0,-zq1,-zq2,-zq3,-zq4,-zq5,-zq6]
    rw [hI S1 e1]
    simp [hl1,-zq0,-zq1,-zq2,-zq3,-zq4,-zq5,-zq6]
    refine slL_wp hl1 ?_
    intro m1 S3 e3 k3 g3
    have lk3:=k3.1
    rw [tk] at e3
    have hl3:=k3.get hl1 (by simp)
    simp [hl3,-zq0,-zq1,-zq2,-zq3,-zq4,-zq5,-zq6]
    refine slL_wp hl3 ?_
    intro m2 S4 e4 k4 g4
    have lk4:=k4.1
    rw [dr] at e4
    simp [-zq0,-zq1,-zq2,-zq3,-zq4,-zq5,-zq6]
    refine addL_wp (k4.get e3 (by simp)) e4 (by simp; omega) ?_
    intro m3 S5 e5 k5 g5
    have lk5:=k5.1
    simp [-zq0,-zq1,-zq2,-zq3,-zq4,-zq5,-zq6]
    have l4:=((k1.trans k3).trans k4).1
    refine h _ hes m3 S5 ?_ (((k1.trans k3).trans k4).trans k5) (by omega)
    rw [e5,hds,dropD_at hqT hnt]
    simp
  | cut T n => cases hre
  | put T n x => cases hre
  | turn T n x => cases hre
end
end K38
namespace K38
open PySem PySem.Spec PyProof.Rows L2 PL
theorem alike_leaf (n:Nat) {d e p q:PV} {S:Sto} {P:PV→Sto→Prop} {R:Str→PV→Sto→Prop} (hp:Sn S d p) (hq:Sn S e q) (ha:AD 0 e) (h1:d = e→P (.bl true) S) (h0:d ≠ e→P (.bl false) S):wp (m_q11 (n + 1) [p,q] S) P R:=by
 unfold m_q11
 rw [callS_wp]
 cases e <;> simp only [Sn] at hq <;> (try subst hq) <;> (try (simp [AD] at ha; done)) <;> cases d <;> simp only [Sn] at hp <;> (try subst hp) <;> (try (exact hp.elim))
 all_goals (try obtain ⟨_,rfl,_⟩:=hp)
 all_goals (try obtain ⟨_,_,rfl,hp1,_⟩:=hp)
 all_goals (simp [startE,isi_loc_lst, *] at h1 h0 ⊢)
 all_goals (first | assumption | skip)
 all_goals exact dec_wp h1 h0
theorem alike_loop {n:Nat} {ds es ps qs:List PV} {p q:PV} {S:Sto} {N:En→Sto→Prop} {T:PV→Sto→Prop} {R:Str→PV→En→Sto→Prop}
  (ih:∀ (d e p q:PV) (S:Sto) (P:PV→Sto→Prop) (R:Str→PV→Sto→Prop),Sn S d p→Sn S e q→AD n e→(d = e→P (.bl true) S)→(d ≠ e→P (.bl false) S)→wp (m_q11 (n + 1) [p,q] S) P R)
  (hp:∀ i:Int,getP p (.int i) S = (atI ps i).map fun v => (v,S)) (hq:∀ i:Int,getP q (.int i) S = (atI qs i).map fun v => (v,S)) (sp:SnL S ds ps) (sq:SnL S es qs) (ha:ADL n es) (hl:ds.length = es.length)
  (h1:ds = es→∀ τ,N τ S) (h0:ds ≠ es→T (.bl false) S) :
  wpS (forL ⟨rngI 0 (qs.length:Int),[]⟩ (gN 2) (ifS (notM (truM (callD (m_q11 (n + 1)) (aC (binM getP (vV 0) (vV 2)) (aC (binM getP (vV 1) (vV 2)) aN))))) (retS (cV (.bl false))) nopS) (rngI 0 (qs.length:Int)) [some p,some q,none] S) N T R:=by
 have lp:=sp.length
 have lq:=sq.length
 refine forR_wp (fun i τ S' => S' = S∧(∃ x,τ = [some p,some q,x])∧ds.take i = es.take i) ⟨rfl,⟨none,rfl⟩,by simp⟩ ?_ ?_
 ·rintro i τ S' J hi ⟨rfl,⟨x,rfl⟩,ht⟩ hJ
  refine ⟨by simp,_,rfl,?_⟩
  obtain ⟨a,hia⟩:∃ a,ps[i]? = some a:=⟨_,List.getElem?_eq_getElem (by omega)⟩
  obtain ⟨b,hib⟩:∃ b,qs[i]? = some b:=⟨_,List.getElem?_eq_getElem (by omega)⟩
  obtain ⟨a',ha1,ha2⟩:=sp.get hia
  obtain ⟨b',hb1,hb2⟩:=sq.get hib
  have ga:atI ps (i:Int) = some a:=(PL.atI_get (by omega)).trans hia
  have gb:atI qs (i:Int) = some b:=(PL.atI_get (by omega)).trans hib
  simp [hp,hq,ga,gb]
  refine ih a' b' a b S' _ _ ha2 hb2 (ADL_iff.mp ha b' (List.mem_of_getElem? hb1)) (fun e => ?_) (fun e => ?_)
  ·subst e
   simp
   refine hJ _ _ ⟨rfl,⟨_,rfl⟩,?_⟩
   rw [List.take_succ,List.take_succ,ht,ha1,hb1]
  ·simp
   refine h0 fun z => e ?_
   subst z
   rw [ha1] at hb1
   cases hb1; rfl
 ·rintro τ S' ⟨rfl,⟨x,rfl⟩,ht⟩
  refine ⟨by simp,h1 ?_ _⟩
  rw [List.take_of_length_le (by omega),List.take_of_length_le (by omega)] at ht
  exact ht
theorem alike_wp:∀ (n:Nat) (d e p q:PV) (S:Sto) (P:PV→Sto→Prop) (R:Str→PV→Sto→Prop),Sn S d p→Sn S e q→AD n e→(d = e→P (.bl true) S)→(d ≠ e→P (.bl false) S)→wp (m_q11 (n + 1) [p,q] S) P R:=by
 intro n
 induction n with
 | zero => intro d e p q S P R hp hq ha h1 h0; exact alike_leaf 0 hp hq ha h1 h0
 | succ n ih =>
  intro d e p q S P R hp hq ha h1 h0
  cases e with
  | non => exact alike_leaf _ hp hq (by simp [AD]) h1 h0
  | bl b => exact alike_leaf _ hp hq (by simp [AD]) h1 h0
  | int b => exact alike_leaf _ hp hq (by simp [AD]) h1 h0
  | str b => exact alike_leaf _ hp hq (by simp [AD]) h1 h0
  | fn _ _ _ => exact absurd ha (by simp [AD])
  | loc l => exact hq.elim
  | tup es =>
   obtain ⟨qs,rfl,sq⟩:=hq
   obtain ⟨hw,ha⟩:es.length ≤ 16777216∧ADL n es:=by simpa [AD] using ha
   have lq:=sq.length
   unfold m_q11
   rw [callS_wp]
   cases d <;> simp only [Sn] at hp <;> (try subst hp)
   case tup ds =>
    obtain ⟨ps,rfl,sp⟩:=hp
    have lp:=sp.length
    simp [startE] at h1 h0 ⊢
    refine ⟨fun hl => ⟨by unfold rngOk; omega,?_⟩,fun hl => h0 fun z => hl (by subst z; omega)⟩
    exact alike_loop ih (fun i => rfl) (fun i => rfl) sp sq ha (by omega) (fun e τ => by simpa using h1 e) h0
   case fls ds =>
    obtain ⟨l,ps,rfl,hll,sp⟩:=hp
    have h0:=h0 (by intro z; cases z)
    clear ih h1
    simp [startE,isi_loc_lst _ hll]
    exact h0
   all_goals (have h0:=h0 (by intro z; cases z); clear ih h1; simp [startE]; exact h0)
  | fls es =>
   obtain ⟨k,qs,rfl,hk,sq⟩:=hq
   obtain ⟨hw,ha⟩:es.length ≤ 16777216∧ADL n es:=by simpa [AD] using ha
   have lq:=sq.length
   unfold m_q11
   rw [callS_wp]
   cases d <;> simp only [Sn] at hp <;> (try subst hp)
   case tup ds =>
    obtain ⟨ps,rfl,sp⟩:=hp
    have h0:=h0 (by intro z; cases z)
    clear ih h1
    simp [startE,isi_loc_lst _ hk]
    exact h0
   case fls ds =>
    obtain ⟨l,ps,rfl,hll,sp⟩:=hp
    have lp:=sp.length
    simp [startE,isi_loc_lst _ hll,isi_loc_lst _ hk,hll,hk] at h1 h0 ⊢
    refine ⟨fun hl => ⟨by unfold rngOk; omega,?_⟩,fun hl => h0 fun z => hl (by subst z; omega)⟩
    exact alike_loop ih (fun i => by simp [hll]) (fun i => by simp [hk]) sp sq ha (by omega) (fun e τ => by simpa using h1 e) h0
   all_goals (have h0:=h0 (by intro z; cases z); clear ih h1; simp [startE,isi_loc_lst _ hk]; exact h0)
end K38
namespace K38
open PySem PySem.Spec PyProof.Rows L2 PL
theorem sn_dfs {ds:List Df} {S:Sto} {n:Nat} (p:Prg ds) (h:S[n]? = some (.lst (ds.map Df.pv))):Sn S (.fls (ds.map Df.pv)) (.loc n) :=
 ⟨n,_,rfl,h,PlL.sn 11 _ (dfs_pl p.fair p.dep (by omega))⟩
theorem ad_dfs {ds:List Df} (p:Prg ds):AD 13 (.fls (ds.map Df.pv)):=by
 have hl:=p.sized.len
 refine ⟨by simp; omega,PlL.ad 12 _ (dfs_pl p.fair p.dep (by omega)) (WdL_iff.mpr fun q hq => ?_)⟩
 obtain ⟨d,hd,rfl⟩:=List.mem_map.mp hq
 exact Df.wd p.sized hd
theorem alike_dfs {ds:List Df} {S:Sto} {n m:Nat} {P:PV→Sto→Prop} {R:Str→PV→Sto→Prop} (p:Prg ds) (h1:S[n]? = some (.lst (ds.map Df.pv))) (h2:S[m]? = some (.lst (ds.map Df.pv))) (h:P (.bl true) S):wp (m_q11 14 [.loc n,.loc m] S) P R :=
 alike_wp 13 (.fls (ds.map Df.pv)) (.fls (ds.map Df.pv)) _ _ S P R (sn_dfs p h1) (sn_dfs p h2) (ad_dfs p) (fun _ => h) (fun z => absurd rfl z)
theorem alike_bl {b:Bool} {S:Sto} {P:PV→Sto→Prop} {R:Str→PV→Sto→Prop} (h:P (.bl true) S):wp (m_q11 14 [.bl b,.bl b] S) P R :=
 alike_leaf (d:=.bl b) (e:=.bl b) 13 rfl rfl (by simp [AD]) (fun _ => h) (fun e => absurd rfl e)
theorem eq_wp {ds:List Df} {l k:Nat} {S:Sto} {P:PV→Sto→Prop} {R:Str→PV→Sto→Prop} (a1:PrgAt l ds S) (a2:PrgAt k ds S) (p:Prg ds)
  (h:P (.bl true) S):wp (m_q16 [.loc l,.loc k] S) P R:=by
 obtain ⟨m1,q1,q1'⟩:=a1
 obtain ⟨m2,q2,q2'⟩:=a2
 obtain ⟨b,hb1,hb2⟩:=eqB_lists (n:=20) (by decide) q1' q2' p.np.sp.pl p.np.sp.pl
 rw [hb2.mpr rfl] at hb1
 unfold m_q16
 rw [callS_wp]
 simp [startE,q1,q2,List.lookup,hb1,-zq0,-zq1,-zq2,-zq3,-zq4,-zq5,-zq6]
 exact h
theorem Prg.some {ds:List Df} (pg:Prg ds):0 < ds.length:=by
 cases ds with
 | nil => exact absurd pg.hd.main (by simp)
 | cons d ds => simp
theorem apart {t g B n:Nat} {ds:List Df} {S:Sto} (T:Tray t g B S) (e:S[n]? = some (.lst (ds.map Df.pv))) (h0:0 < ds.length):n ≠ t∧n ≠ g:=by
 obtain ⟨gs,b,f,c,h1,h2,_⟩:=T.ex
 cases ds with
 | nil => simp at h0
 | cons d ds =>
  constructor
  ·rintro rfl
   rw [h1] at e
   simp [Df.pv] at e
  ·rintro rfl
   rw [h2] at e
   cases gs with
   | nil => simp at e
   | cons x gs => simp [Df.pv] at e
theorem apartI {t g B n:Nat} {C:Str} {fs:List (Str × PV)} {S:Sto} (T:Tray t g B S) (e:S[n]? = some (.ins C fs)):n ≠ t∧n ≠ g:=by
 obtain ⟨gs,b,f,c,h1,h2,_⟩:=T.ex
 constructor
 ·rintro rfl; rw [h1] at e; cases e
 ·rintro rfl; rw [h2] at e; cases e
theorem prg_keep {t g B pl:Nat} {ds:List Df} {S S':Sto} (T:Tray t g B S) (hp:PrgAt pl ds S) (h0:0 < ds.length) (k:Keep [t,g] S S'):PrgAt pl ds S':=by
 obtain ⟨n,q1,q2⟩:=hp
 have a1:=apartI T q1
 have a2:=apart T q2 h0
 exact ⟨n,k.get q1 (by simp; omega),k.get q2 (by simp; omega)⟩
def StA (ns:List Int) (t g:Nat) (S0:Sto) (i:Nat) (τ : PL.En) (S':Sto):Prop:=∃ x2 x3 x4 x5 x6 x7 x8:Option PV,τ = [some (.fls (ns.map PV.int)),some (.loc t),x2,x3,x4,x5,x6,x7,x8]∧Tray t g (300000 * i) S'∧Keep [t,g] S0 S'
def StB (ns:List Int) (t g B:Nat) (x2:Option PV) (S0:Sto) (j:Nat) (τ : PL.En) (S':Sto):Prop:=∃ (x5 x6 x7 x8:Option PV) (sl pl:Nat) (ds:List Df),τ = [some (.fls (ns.map PV.int)),some (.loc t),x2,some (.loc sl),some (.loc pl),x5,x6,x7,x8]∧S'[sl]? = some (.lst (ds.map Df.pv))∧PrgAt pl ds S'∧Prg ds∧(∀ d ∈ ds,(Rw.eachs d.2.2).length ≤ 30)∧Tray t g (B + 1100 * j) S'∧Keep [t,g] S0 S'
def StC (ns:List Int) (t i j sl pl m fl:Nat) (dd:Deed) (S0:Sto) (τ : PL.En) (S':Sto):Prop:=τ = [some (.fls (ns.map PV.int)),some (.loc t),some (.int (i:Int)),some (.loc sl),some (.loc pl),some (.int (j:Int)),some dd.pv,some (.loc m),some (.loc fl)]∧Keep [] S0 S'
theorem main:LawMainT "rows_edited" "rows_edited.<locals>.<lambda>" 63 m_law:=by
 intro ns hn
 unfold m_law
 rw [callS_wp]
 simp [startE,-zq0,-zq1,-zq2,-zq3,-zq4,-zq5,-zq6]
 refine trayT_wp hn ?_
 intro t g S T k0 gt gg
 have z0:S[0]? = some tabO':=k0.get (by rfl) (by simp)
 have t1:1 ≤ t:=by simpa using gt
 have g1:1 ≤ g:=by simpa using gg
 have c3:cutP (ns.map PV.int) none (some 3) = (ns.take 3).map PV.int:=by rw [List.map_take]; exact cut_take 3
 obtain ⟨cs,hcs,hcl⟩:∃ cs,cutP (ns.map PV.int) (some 3) (some 11) = cs∧cs.length ≤ 63:=⟨_,rfl,by simp [cutP]; omega⟩
 simp [c3,-zq0,-zq1,-zq2,-zq3,-zq4,-zq5,-zq6]
 have Ka:Keep [] S (S ++ [Ob.lst ((ns.map PV.int).take 3)]):=Keep.app
 have ga:S.length < (S ++ [Ob.lst ((ns.map PV.int).take 3)]).length:=by simp
 generalize S ++ [Ob.lst ((ns.map PV.int).take 3)] = Sa at Ka ga
 have Ta:=T.keep Ka (by simp) (by simp)
 have za:=Ka.get z0 (by simp)
 obtain ⟨kn,hkn,hk4⟩:∃ kn:Nat,(1 + ((min 3 ns.length:Nat):Int)) = (kn:Int)∧kn ≤ 4:=⟨1 + min 3 ns.length,by omega,by omega⟩
 rw [hkn]
 refine ⟨by unfold rngOk; omega,?_⟩
 refine forR_wp (fun i => StA ns t g Sa i) ⟨_,_,_,_,_,_,_,rfl,Ta,.refl⟩ ?_ ?_
 ·rintro i τ S1 J hi ⟨x2,x3,x4,x5,x6,x7,x8,rfl,T1,k1⟩ hJ
  refine ⟨by simp,_,rfl,?_⟩
  have z1:=k1.get za (by simp; omega)
  simp [-zq0,-zq1,-zq2,-zq3,-zq4,-zq5,-zq6]
  refine draw_wp T1 (by omega) (by decide) (by decide) ?_
  intro w Sw w0 w1 Tw kw
  simp [-zq0,-zq1,-zq2,-zq3,-zq4,-zq5,-zq6]
  refine program3_wp Tw (by omega) (by omega) (by omega) ?_
  intro sl ds S2 e2 gsl pg hc h0 T2 k2
  have lt1:=T1.lt
  have z2:=(kw.trans k2).get z1 (by simp; omega)
  simp [-zq0,-zq1,-zq2,-zq3,-zq4,-zq5,-zq6]
  refine list_wp (xs:=ds.map Df.pv) (by simp [e2]) ?_
  intro cl S3 e3 k3 g3
  have lk3:=k3.1
  simp [-zq0,-zq1,-zq2,-zq3,-zq4,-zq5,-zq6]
  refine makeP_wp e3 pg ?_
  intro pl dn S4 p1 p2 p3 p4 k4
  have hp4:PrgAt pl ds S4:=⟨dn,p1,p2⟩
  have k24:=k3.trans k4
  have T4:=T2.keep k24 (by simp) (by simp)
  have z4:=k24.get z2 (by simp)
  have e4:=k24.get e2 (by simp)
  simp [hcs,-zq0,-zq1,-zq2,-zq3,-zq4,-zq5,-zq6]
  have Kb:Keep [] S4 (S4 ++ [Ob.lst cs]):=Keep.app
  generalize S4 ++ [Ob.lst cs] = S5 at Kb
  have T5:=T4.keep Kb (by simp) (by simp)
  have z5:=Kb.get z4 (by simp)
  have e5:=Kb.get e4 (by simp)
  have hp5:=hp4.keep Kb
  have lk4:=k4.1
  obtain ⟨jn,hjn,hj4⟩:∃ jn:Nat,(4 + 2 * (cs.length:Int)) = (jn:Int)∧jn ≤ 130:=⟨4 + 2 * cs.length,by omega,by omega⟩
  rw [hjn]
  refine ⟨by unfold rngOk; omega,?_⟩
  have K15:Keep [t,g] S1 S5:=(kw.trans k2).trans ((k24.trans Kb).mono (by simp))
  refine forR_wp (fun j => StB ns t g (300000 * i + 100010) (some (.int (i:Int))) S5 j) ⟨_,_,_,_,sl,pl,ds,rfl,e5,hp5,pg,hc,by simpa using T5.up (by omega),.refl⟩ ?_ ?_
  ·rintro j τ S6 J2 hj ⟨y5,y6,y7,y8,sl,pl,ds,rfl,e6,hp6,pg,hc,T6,k6⟩ hJ2
   refine ⟨by simp,_,rfl,?_⟩
   have z6:=k6.get z5 (by simp; omega)
   have h0:=Prg.some pg
   have asl:=apart T6 e6 h0
   have ds6:ds.length ≤ 6:=by have:=pg.hd.len; simpa using this
   simp [-zq0,-zq1,-zq2,-zq3,-zq4,-zq5,-zq6]
   refine law_edit_wp T6 (by omega) e6 pg hc asl ?_
   intro dd S7 gd T7 k7
   obtain ⟨⟨es,he,pge,hce⟩,hxs⟩:=gd
   have h0e:=Prg.some pge
   have e7:=k7.get e6 (by simp; omega)
   have z7:=k7.get z6 (by simp; omega)
   have hp7:=prg_keep T6 hp6 h0 k7
   simp [-zq0,-zq1,-zq2,-zq3,-zq4,-zq5,-zq6]
   refine law_edited_wp e7 (by omega) (fun d hd => ⟨by have:=pg.dep d hd; omega,by have:=hc d hd; omega⟩) (fun x hx => by have:=hxs x hx; omega) (fun es' he' d hd => by rw [he] at he'; cases he'; have:=pge.dep d hd; omega) ?_ (fun z => by rw [he] at z; cases z)
   intro es' he' m S8 e8 k8 g8
   rw [he] at he'; cases he'
   have hp8:=hp7.keep k8
   have z8:=k8.get z7 (by simp)
   have edw:∀ {S:Sto} {P:PV→Sto→Prop} {R:Str→PV→Sto→Prop},S[0]? = some tabO'→PrgAt pl ds S→(∀ fl S',PrgAt fl es S'→Keep [] S S'→P (.loc fl) S')→wp (m_q30 [.loc pl,dd.pv] S) P R:=fun hz hp hh => by
    refine edited_wp hz hp pg.nd (by omega) (fun d hd => ⟨by have:=pg.dep d hd; omega,by have:=hc d hd; omega,Rw.Alls_mono (fun _ h => h.1) (pg.np.sp.nm d hd).2.2⟩) (fun x hx => ⟨(hxs x hx).1,(hxs x hx).2.1⟩) (fun es' he' => by rw [he] at he'; cases he'; exact ⟨pge.sized,fun d hd => (pge.fair d hd).2.1⟩) ?_ ?_ ?_
    ·intro es' he' _ fl S' hp' k' _
     rw [he] at he'; cases he'
     exact hh fl S' hp' k'
    ·intro es' w he' hw
     rw [he] at he'; cases he'
     rw [dueOf_ok pge] at hw; cases hw
    ·intro z; rw [he] at z; cases z
   simp [-zq0,-zq1,-zq2,-zq3,-zq4,-zq5,-zq6]
   refine edw z8 hp8 ?_
   intro fl S9 hp9 k9
   have z9:=k9.get z8 (by simp)
   have e9:=k9.get e8 (by simp)
   have e79:=(k8.trans k9).get e7 (by simp)
   have hp89:=hp8.keep k9
   simp [-e_seqS,-zq0,-zq1,-zq2,-zq3,-zq4,-zq5,-zq6]
   refine seq_split (StC ns t i j sl pl m fl dd S9) ?_ ?_
   ·obtain ⟨d9,q1,q2⟩:=hp9
    obtain ⟨d8,r1,r2⟩:=hp89
    simp [q1,List.lookup,-zq0,-zq1,-zq2,-zq3,-zq4,-zq5,-zq6]
    refine definitions_wp ⟨d9,q1,q2⟩ ?_
    intro n10 S10 e10 k10 g10
    have lk10:=k10.1
    simp [-zq0,-zq1,-zq2,-zq3,-zq4,-zq5,-zq6]
    refine alike_dfs pge e10 (k10.get e9 (by simp)) ?_
    simp [k10.get r1 (by simp),List.lookup,-zq0,-zq1,-zq2,-zq3,-zq4,-zq5,-zq6]
    refine definitions_wp ⟨d8,k10.get r1 (by simp),k10.get r2 (by simp)⟩ ?_
    intro n11 S11 e11 k11 g11
    have lk11:=k11.1
    simp [-zq0,-zq1,-zq2,-zq3,-zq4,-zq5,-zq6]
    refine alike_dfs pg e11 ((k10.trans k11).get e79 (by simp)) ?_
    simp [-zq0,-zq1,-zq2,-zq3,-zq4,-zq5,-zq6]
    exact ⟨rfl,k10.trans k11⟩
   rintro τ S10 ⟨rfl,k10⟩
   refine seq_split (StC ns t i j sl pl m fl dd S10) ?_ ?_
   ·simp [-zq0,-zq1,-zq2,-zq3,-zq4,-zq5,-zq6]
    refine edw (k10.get z9 (by simp)) (hp89.keep k10) ?_
    intro fl2 S11 hp11 k11
    obtain ⟨d9,q1,q2⟩:=(hp9.keep k10).keep k11
    obtain ⟨d11,r1,r2⟩:=hp11
    simp [q1,r1,List.lookup,-zq0,-zq1,-zq2,-zq3,-zq4,-zq5,-zq6]
    refine eq_wp ⟨d11,r1,r2⟩ ⟨d9,q1,q2⟩ pge ?_
    simp [-zq0,-zq1,-zq2,-zq3,-zq4,-zq5,-zq6]
    refine makeP_wp ((k10.trans k11).get e9 (by simp)) pge ?_
    intro pl3 dn3 S12 u1 u2 u3 u4 k12
    simp [u1,k12.get q1 (by simp),List.lookup,-zq0,-zq1,-zq2,-zq3,-zq4,-zq5,-zq6]
    refine eq_wp ⟨d9,k12.get q1 (by simp),k12.get q2 (by simp)⟩ ⟨dn3,u1,u2⟩ pge ?_
    simp [-zq0,-zq1,-zq2,-zq3,-zq4,-zq5,-zq6]
    refine alike_bl ?_
    simp [-zq0,-zq1,-zq2,-zq3,-zq4,-zq5,-zq6]
    exact ⟨rfl,k11.trans k12⟩
   rintro τ S11 ⟨rfl,k11⟩
   simp [-zq0,-zq1,-zq2,-zq3,-zq4,-zq5,-zq6]
   have K911:=k10.trans k11
   have K711:Keep [] S7 S11:=(k8.trans k9).trans K911
   exact hJ2 _ _ ⟨_,_,_,_,m,fl,es,rfl,K911.get e9 (by simp),hp9.keep K911,pge,hce,(T7.keep K711 (by simp) (by simp)).up (by omega),k6.trans (k7.trans (K711.mono (by simp)))⟩
  ·rintro τ S6 ⟨y5,y6,y7,y8,sl',pl',ds',rfl,_,_,_,_,T6,k6⟩
   refine ⟨by simp,?_⟩
   exact hJ _ _ ⟨_,_,_,_,_,_,_,rfl,T6.up (by omega),k1.trans (K15.trans k6)⟩
 ·rintro τ S1 ⟨x2,x3,x4,x5,x6,x7,x8,rfl,T1,k1⟩
  refine ⟨by simp,?_⟩
  simp [-zq0,-zq1,-zq2,-zq3,-zq4,-zq5,-zq6]
end K38
open PySem PySem.W PyProof.Rows
set_option maxHeartbeats 0 in
theorem PySem.Challenge.cw_codeasks_k38_programs_edited_holds : PySem.Challenge.rw_codeasks_k38_programs_edited.Holds := by
 w_on; o_law; k_head; (case hw => w_witness2)
 k_fill
 refine LamX.walk_ofTs (l:=PySem.Challenge.rw_codeasks_k38_programs_edited) (n:=63) (k:=23) (x := "_law_script") (CX:=fun w => L2.CX PySem.Challenge.rw_codeasks_k38_programs_edited.prog w) rfl (by decide) rfl ⟨rfl,by decide,by decide⟩ (fun w h Y => Y.1) ?F (fun w H s e s' h => PL.cx_end h)
 case F =>
  intro w mg fa h Y KX G hmg
  refine' K38.law_facts K38.main (w:=w) KX G hmg ?l_q29 ?c_q29 ?k_q29 ?a_q29 ?l_q26 ?c_q26 ?k_q26 ?a_q26 ?l_q27 ?c_q27 ?k_q27 ?a_q27 ?l_q6 ?c_q6 ?k_q6 ?a_q6 ?l_q28 ?c_q28 ?k_q28 ?a_q28 ?l_q24 ?c_q24 ?k_q24 ?a_q24 ?l_q23 ?c_q23 ?k_q23 ?a_q23 ?l_q4 ?c_q4 ?k_q4 ?l_q0 ?c_q0 ?k_q0 ?l_q16 ?c_q16 ?k_q16 ?l_changed ?c_changed ?k_changed ?a_changed ?l_q7 ?c_q7 ?k_q7 ?a_q7 ?l_q30 ?c_q30 ?k_q30 ?a_q30 ?l_q17 ?c_q17 ?k_q17 ?a_q17 ?l_q20 ?c_q20 ?k_q20 ?a_q20 ?l_q15 ?c_q15 ?k_q15 ?a_q15 ?l_q11 ?c_q11 ?k_q11 ?a_q11 ?l_q22 ?c_q22 ?k_q22 ?a_q22 ?l_q8 ?c_q8 ?k_q8 ?a_q8 ?l_q10 ?c_q10 ?k_q10 ?a_q10 ?l_q13 ?c_q13 ?k_q13 ?a_q13 ?l_q25 ?c_q25 ?k_q25 ?a_q25 ?l_q18 ?c_q18 ?k_q18 ?a_q18 ?l_q3 ?c_q3 ?k_q3 ?a_q3 ?l_q19 ?c_q19 ?k_q19 ?a_q19 ?l_q9 ?c_q9 ?k_q9 ?a_q9 ?l_q14 ?c_q14 ?k_q14 ?a_q14 ?l_q12 ?c_q12 ?k_q12 ?a_q12 ?l_q1 ?c_q1 ?k_q1 ?a_q1 ?l_q5 ?c_q5 ?k_q5 ?a_q5 ?l_q2 ?c_q2 ?k_q2 ?a_q2 ?l_q21 ?c_q21 ?k_q21 ?a_q21 ?l_law ?c_law ?k_law ?a_law ?a_Program ?pg_Program ?hd_Program ?po_Program ?sa_Program ?mk_Program ?kc_Program ?at_Program_init ?i_Program_init ?at_Program_definitions ?i_Program_definitions ?at_Program_eq ?i_Program_eq ?one_Program ?oob_Program ?na_definitions_kept ?l_einit ?c_einit ?k_einit ?ti_einit ?cg ?cta ?a_NoProgram ?xl_NoProgram ?rv_NoProgram ?sa_NoProgram ?be_NoProgram ?ty_NoProgram ?kp_NoProgram ?at_xNoProgram ?wn_NoProgram ?hx_NoProgram ?a_NoPlace ?xl_NoPlace ?rv_NoPlace ?sa_NoPlace ?be_NoPlace ?ty_NoPlace ?kp_NoPlace ?at_xNoPlace ?wn_NoPlace ?hx_NoPlace ?a_AskError ?xl_AskError ?rv_AskError ?sa_AskError ?be_AskError ?ty_AskError ?kp_AskError ?at_xAskError ?wn_AskError ?hx_AskError ?c_LETTERS ?c_MOST_LETTERS ?c_MAIN ?n_all ?n_bool ?n_enumerate ?n_int ?n_isinstance ?n_len ?n_list ?n_max ?n_min ?n_range ?n_set ?n_str ?n_tuple ?hcP ?hps ?hkn
  (case a_q29 => k_is)
  (case a_q26 => k_is)
  (case a_q27 => k_is)
  (case a_q6 => k_is)
  (case a_q28 => k_is)
  (case a_q24 => k_is)
  (case a_q23 => k_is)
  (case a_changed => k_is)
  (case a_q7 => k_is)
  (case a_q30 => k_is)
  (case a_q17 => k_is)
  (case a_q20 => k_is)
  (case a_q15 => k_is)
  (case a_q11 => k_is)
  (case a_q22 => k_is)
  (case a_q8 => k_is)
  (case a_q10 => k_is)
  (case a_q13 => k_is)
  (case a_q25 => k_is)
  (case a_q18 => k_is)
  (case a_q3 => k_is)
  (case a_q19 => k_is)
  (case a_q9 => k_is)
  (case a_q14 => k_is)
  (case a_q12 => k_is)
  (case a_q1 => k_is)
  (case a_q5 => k_is)
  (case a_q2 => k_is)
  (case a_q21 => k_is)
  (case a_law => k_is)
  (case a_Program => k_is)
  (case a_NoProgram => k_is)
  (case a_NoPlace => k_is)
  (case a_AskError => k_is)
  (case at_Program_init => k_is)
  (case at_Program_definitions => k_is)
  (case at_Program_eq => k_is)
  (case at_xNoProgram => k_is)
  (case at_xNoPlace => k_is)
  (case at_xAskError => k_is)
  (case l_q29 => k_is)
  (case l_q26 => k_is)
  (case l_q27 => k_is)
  (case l_q6 => k_is)
  (case l_q28 => k_is)
  (case l_q24 => k_is)
  (case l_q23 => k_is)
  (case l_q4 => k_is)
  (case l_q0 => k_is)
  (case l_q16 => k_is)
  (case l_changed => k_is)
  (case l_q7 => k_is)
  (case l_q30 => k_is)
  (case l_q17 => k_is)
  (case l_q20 => k_is)
  (case l_q15 => k_is)
  (case l_q11 => k_is)
  (case l_q22 => k_is)
  (case l_q8 => k_is)
  (case l_q10 => k_is)
  (case l_q13 => k_is)
  (case l_q25 => k_is)
  (case l_q18 => k_is)
  (case l_q3 => k_is)
  (case l_q19 => k_is)
  (case l_q9 => k_is)
  (case l_q14 => k_is)
  (case l_q12 => k_is)
  (case l_q1 => k_is)
  (case l_q5 => k_is)
  (case l_q2 => k_is)
  (case l_q21 => k_is)
  (case l_law => k_is)
  (case l_einit => k_is)
  (case hps => exact PySem.W.km_tabs_of Y _ (List.mem_singleton.mpr rfl))
  (case c_q29 => k_is)
  (case k_q29 => k_is)
  (case c_q26 => k_is)
  (case k_q26 => k_is)
  (case c_q27 => k_is)
  (case k_q27 => k_is)
  (case c_q6 => k_is)
  (case k_q6 => k_is)
  (case c_q28 => k_is)
  (case k_q28 => k_is)
  (case c_q24 => k_is)
  (case k_q24 => k_is)
  (case c_q23 => k_is)
  (case k_q23 => k_is)
  (case c_q4 => k_is)
  (case k_q4 => k_is)
  (case c_q0 => k_is)
  (case k_q0 => k_is)
  (case c_q16 => k_is)
  (case k_q16 => k_is)
  (case c_changed => k_is)
  (case k_changed => k_is)
  (case c_q7 => k_is)
  (case k_q7 => k_is)
  (case c_q30 => k_is)
  (case k_q30 => k_is)
  (case c_q17 => k_is)
  (case k_q17 => k_is)
  (case c_q20 => k_is)
  (case k_q20 => k_is)
  (case c_q15 => k_is)
  (case k_q15 => k_is)
  (case c_q11 => k_is)
  (case k_q11 => k_is)
  (case c_q22 => k_is)
  (case k_q22 => k_is)
  (case c_q8 => k_is)
  (case k_q8 => k_is)
  (case c_q10 => k_is)
  (case k_q10 => k_is)
  (case c_q13 => k_is)
  (case k_q13 => k_is)
  (case c_q25 => k_is)
  (case k_q25 => k_is)
  (case c_q18 => k_is)
  (case k_q18 => k_is)
  (case c_q3 => k_is)
  (case k_q3 => k_is)
  (case c_q19 => k_is)
  (case k_q19 => k_is)
  (case c_q9 => k_is)
  (case k_q9 => k_is)
  (case c_q14 => k_is)
  (case k_q14 => k_is)
  (case c_q12 => k_is)
  (case k_q12 => k_is)
  (case c_q1 => k_is)
  (case k_q1 => k_is)
  (case c_q5 => k_is)
  (case k_q5 => k_is)
  (case c_q2 => k_is)
  (case k_q2 => k_is)
  (case c_q21 => k_is)
  (case k_q21 => k_is)
  (case c_law => k_is)
  (case k_law => k_is)
  (case pg_Program => k_is)
  (case hd_Program => k_is)
  (case po_Program => k_is)
  (case sa_Program => k_is)
  (case mk_Program => k_is)
  (case kc_Program => k_is)
  (case i_Program_init => k_is)
  (case i_Program_definitions => k_is)
  (case i_Program_eq => k_is)
  (case one_Program => k_is)
  (case oob_Program => k_is)
  (case na_definitions_kept => k_is)
  (case c_einit => k_is)
  (case k_einit => k_is)
  (case ti_einit => k_is)
  (case cg => k_is)
  (case cta => k_is)
  (case xl_NoProgram => k_is)
  (case rv_NoProgram => first | rfl | decide +kernel)
  (case sa_NoProgram => k_is)
  (case be_NoProgram => k_is)
  (case ty_NoProgram => k_is)
  (case kp_NoProgram => k_is)
  (case wn_NoProgram => k_is)
  (case hx_NoProgram => k_is)
  (case xl_NoPlace => k_is)
  (case rv_NoPlace => first | rfl | decide +kernel)
  (case sa_NoPlace => k_is)
  (case be_NoPlace => k_is)
  (case ty_NoPlace => k_is)
  (case kp_NoPlace => k_is)
  (case wn_NoPlace => k_is)
  (case hx_NoPlace => k_is)
  (case xl_AskError => k_is)
  (case rv_AskError => first | rfl | decide +kernel)
  (case sa_AskError => k_is)
  (case be_AskError => k_is)
  (case ty_AskError => k_is)
  (case kp_AskError => k_is)
  (case wn_AskError => k_is)
  (case hx_AskError => k_is)
  (case c_LETTERS => k_is)
  (case c_MOST_LETTERS => k_is)
  (case c_MAIN => k_is)
  (case n_all => k_is)
  (case n_bool => k_is)
  (case n_enumerate => k_is)
  (case n_int => k_is)
  (case n_isinstance => k_is)
  (case n_len => k_is)
  (case n_list => k_is)
  (case n_max => k_is)
  (case n_min => k_is)
  (case n_range => k_is)
  (case n_set => k_is)
  (case n_str => k_is)
  (case n_tuple => k_is)
  (case hcP => kernel_rfl)
  (case hkn => kernel_rfl)
