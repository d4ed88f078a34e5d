import PyProof.Rows.All
import Wide.All
import OpenK.AllK
import Wide.FinOn
import PySem.Challenge.RW_sm0009_01
set_option maxRecDepth 100000
set_option linter.all false
set_option Elab.async false
set_option backward.match.sparseCases false
set_option genSizeOf false
set_option genInjectivity false
set_option tactic.hygienic false
open PySem PySem.Calls PySem.W PyProof.Rows
namespace Mine
noncomputable section
section
section
def aa := @wpAny_bind
def ad := @Nat.le_trans
def ae := @congrArg
def ag := @True.intro
def ah := @Heap.get?_push_of_some
def ak := @wpAny_pure
def an := @Option.some.inj
def ao := @Nat.lt_of_lt_of_le
def aq := @Nat.le_refl
def az := @Heap.lt_size
def aA := @Nat.lt_of_le_of_lt
def aB := @Nat.le_add_right
def aC := @List.mem_singleton
def aE := @Bool.and_eq_true_iff
def aF := @List.mem_cons_self
def aG := @List.length_map
def aH := @List.append_nil
def aI := @if_neg
def aJ := @List.mem_cons
def aK := @List.mem_cons_of_mem
def aL := @Nat.ne_of_lt
def aM := @Nat.le_of_eq
def aN := @Nat.not_lt
def aO := @Nat.add_le_add_left
def aQ := @List.not_mem_nil
def aS := @List.mem_map
def aV := @wpAny_holding
def aX := @wpAny_standAt
def aZ := @if_pos
def bo := @Nat.zero_le
def bp := @Nat.blt_eq
def bt := @Heap.get?_update_other
def bv := @List.forall_mem_cons
def bz := @List.getElem?_eq_getElem
def bA := @Heap.size_push
def bB := @decide_eq_false
def bC := @Nat.zero_add
def bF := @List.nodup_cons
def bI := @decide_eq_true
def bJ := @Nat.le_of_lt
def bK := @Nat.succ_le_succ
def bL := @Option.map_eq_some_iff
def bM := @Nat.ne_of_gt
def bP := @of_decide_eq_true
def bQ := @Nat.le_of_succ_le
def bT := @Nat.le_succ
def bW := @wpAny_mono
def bY := @wpAny_loadPart_at
def b7 := @List.mem_append_right
def ca := @List.mem_append
def cb := @Nat.add_le_add
def cf := @List.append_assoc
def ch := @wpAny_of_eq
def cy := @List.getElem?_eq_some_iff
def cC := @Nat.le_add_left
def cE := @Nat.add_right_comm
def cI := @Nat.add_assoc
def cJ := @List.getElem?_map
def cR := @List.mem_flatMap
def dH := @Nat.lt_trans
def dK := @Nat.lt_irrefl
def eX := @Prod.mk.inj
def eY := @Nat.add_le_add_right
def fz := @List.map_map
def fP := @List.mem_map_of_mem
def gj := @wpAny_call
def gm := @Nat.one_mul
def jE := @wpAny_typeOf
def nk := @Option.bind_eq_some_iff
def nq := @List.all_eq_true
def pO := @Nat.not_lt_zero
abbrev VS := Value → Shared → Prop
abbrev SV := Str → Option Value
end
end
section
variable{b:Bool}
section
section
variable{α:Type}{G:Prop}
theorem nsK{a:α}(h:none=some a):G:=absurd h nofun
theorem snK{a:α}(h:some a=none):G:=absurd h nofun
theorem ftK(h:false=true):G:=absurd h nofun
theorem tfK(h:true=false):G:=absurd h nofun
theorem someI{a:α}{motive:(b:α)→some a=some b→Prop}(mk:motive a rfl){b:α}(h:some a=some b):motive b h:=by obtain rfl:=an h;exact mk
theorem someI'{b:α}{motive:(a:α)→some a=some b→Prop}(mk:motive b rfl){a:α}(h:some a=some b):motive a h:=by obtain rfl:=an h;exact mk
end
noncomputable def b6{α:Type}(P:α→Prop)(o:Option α):Prop:=o.casesOn True P
section
variable{α β:Type}{P:α→Prop}
theorem aT{o:Option α}{a:α}(k:b6 P o)(h:o=some a):P a:=by subst h;exact k
theorem b6.mono{Q:α→Prop}{o:Option α}(k:b6 P o)(h:∀a,P a→Q a):b6 Q o:=by
 induction o using Option.casesOn with
 |none=>exact k
 |some a=>exact h a k
theorem b6.map{f:β→α}{o:Option β}(k:b6 (λ b=>P (f b)) o):b6 P (o.map f):=by
 induction o using Option.casesOn<;>exact k
theorem b6.bind{f:β→Option α}{o:Option β}(k:b6 (λ b=>b6 P (f b)) o):b6 P (o.bind f):=by
 induction o using Option.casesOn<;>exact k
theorem b6.all{o:Option α}(k:∀a,o=some a→P a):b6 P o:=by
 induction o using Option.casesOn with
 |none=>exact ag
 |some a=>exact k a rfl
theorem b6.any{o:Option α}(k:∀a,P a):b6 P o:= .all λ a _=>k a
theorem b6.cond{o:Option α}(k:b=true→b6 P o):b6 P (cond b o none):=by
 induction b using Bool.casesOn with
 |false=>exact ag
 |true=>exact k rfl
theorem b6.condN{o:Option α}(k:b=false→b6 P o):b6 P (_root_.cond b none o):=by
 induction b using Bool.casesOn with
 |false=>exact k rfl
 |true=>exact ag
noncomputable def tZ(R:α→β→Prop)(x:Option α)(y:Option β):Prop:=x.casesOn (y.casesOn True λ _=>False) λ a=>y.casesOn False (R a)
variable{R:α→β→Prop}{x:Option α}{y:Option β}
theorem tZ.some(h:tZ R x y){b:β}(e:y=some b):∃a,x=some a∧R a b:=by
 subst e
 induction x using Option.casesOn with
 |none=>exact h.elim
 |some a=>exact⟨a,rfl,h⟩
theorem tZ.none(h:tZ R x y)(e:y=none):x=none:=by
 subst e
 induction x using Option.casesOn with
 |none=>rfl
 |some a=>exact h.elim
end
end
end
section
variable{Q:Bool→Shared→Prop}{v:Value}{d:D}{vs:List Value}{ds:List D}
inductive D where
 |none
 |bool (b:Bool)
 |int (i:Int)
 |str (s:Str)
 |tup (ds:List D)
 |lst (ds:List D)
 |dct (es:List (D×D))
 |ob (i:Nat)
 |val (v:Value)
 |meth (f:Value) (i:Nat)
inductive aY where
 |list (ds:List D)
 |dict (es:List (D×D))
 |pdict (es:List ((Int×Int)×D))
 |inst (C:Addr) (fs:List (Str×D))
structure St where
 σ:List (Nat×aY)
 next:Nat
noncomputable def aW:List (Nat×aY)→Nat→Option aY
 |[],_=>none
 |p::r,i=>cond (Nat.beq p.1 i) (some p.2) (aW r i)
noncomputable def AL:List (Nat×aY)→Nat→aY→List (Nat×aY)
 |[],_,_=>[]
 |p::r,i,o=>cond (Nat.beq p.1 i) ((i,o)::r) (p::AL r i o)
noncomputable def rA:List (Nat×aY)→Nat→List (Nat×aY)
 |[],_=>[]
 |p::r,i=>cond (Nat.beq p.1 i) (rA r i) (p::rA r i)
theorem k4(a b:Nat):Nat.beq a b=decide (a=b):=Bool.eq_iff_iff.mpr ((Iff.of_eq Nat.beq_eq).trans decide_eq_true_iff.symm)
theorem oG{α:Type}(a b:Nat)(x y:α):cond (Nat.beq a b) x y=if a=b then x else y:=by rw[k4,Bool.cond_decide]
theorem c9(p:Nat×aY)(r:List (Nat×aY))(i:Nat):aW (p::r) i=if p.1=i then some p.2 else aW r i:=oG ..
theorem x3(p:Nat×aY)(r:List (Nat×aY))(i:Nat)(o:aY):AL (p::r) i o=if p.1=i then(i,o)::r else p::AL r i o:=oG ..
theorem zy(p:Nat×aY)(r:List (Nat×aY))(i:Nat):rA (p::r) i=if p.1=i then rA r i else p::rA r i:=oG ..
theorem kT{σ:List (Nat×aY)}{i:Nat}{o₀:aY}(h:aW σ i=some o₀)(o:aY)(j:Nat):aW (AL σ i o) j=if i=j then some o else aW σ j:=by
 induction σ with
 |nil=>exact nsK h
 |cons p r ih=>
  rw[c9]at h
  rw[x3,c9]
  by_cases hp:p.1=i
  ·rw[aZ hp,c9]
   subst hp
   exact ite_congr rfl (λ _=>rfl) λ n=>(aI n).symm
  ·rw[aI hp]at h ⊢
   rw[c9,ih h]
   by_cases hj:p.1=j
   ·rw[aZ hj,aZ hj,aI λ e=>hp (hj.trans e.symm)]
   ·rw[aI hj,aI hj]
theorem CP(σ:List (Nat×aY))(i j:Nat):aW (rA σ i) j=if i=j then none else aW σ j:=by
 induction σ with
 |nil=>exact(ite_self _).symm
 |cons p r ih=>
  rw[zy,c9]
  by_cases hp:p.1=i
  ·rw[aZ hp,ih]
   subst hp
   exact ite_congr rfl (λ _=>rfl) λ n=>(aI n).symm
  ·rw[aI hp,c9,ih]
   by_cases hj:p.1=j
   ·rw[aZ hj,aZ hj,aI λ e=>hp (hj.trans e.symm)]
   ·rw[aI hj,aI hj]
abbrev cv:=Int⊕Str
noncomputable def Kv:cv→Value→Bool
 | .inl i,v=>Value.isInt i v
 | .inr x,v=>Value.isStrOf x v
noncomputable def CE(w:World):cv→Int
 | .inl i=>hashInt i
 | .inr x=>hashStr w x
section
variable{prog:Program}{w:World}{A:Around}{E:VS}{s:Shared}
theorem ou{a:Int}{b:Str}{t u:Tok}(h:Q false s):wpAny (model prog w) A (eqBool (.int a t) (.str b u)) Q E s:=by
 unfold eqBool
 try with_reducible refine aV ?_
 show wpAny _ _ (if(Value.int a t==Value.str b u)=true then _ else _) Q E s
 rw[aI (by simp)]
 exact aa (EqMixed.eq_int_str (wpAny_truthy_bool h))
theorem or{a:Str}{b:Int}{t u:Tok}(h:Q false s):wpAny (model prog w) A (eqBool (.str a t) (.int b u)) Q E s:=by
 unfold eqBool
 try with_reducible refine aV ?_
 show wpAny _ _ (if(Value.str a t==Value.int b u)=true then _ else _) Q E s
 rw[aI (by simp)]
 exact aa (EqMixed.eq_str_int (wpAny_truthy_bool h))
end
noncomputable def bV(prog:Program)(w:World):KeyKind prog w cv where
 is:=Kv
 hash:=CE w
 inj:=λ v a b ha hb=>by
  cases a with
  |inl a=>
   cases b with
   |inl b=>exact ae Sum.inl (Value.isInt_inj v _ _ ha hb)
   |inr b=>obtain⟨t,rfl⟩:=Value.isInt_shape ha;cases hb
  |inr a=>
   cases b with
   |inl b=>obtain⟨t,rfl⟩:=Value.isStrOf_shape ha;cases hb
   |inr b=>exact ae Sum.inr (Value.isStrOf_inj v _ _ ha hb)
 byValue:=λ k v h=>by
  cases k with
  |inl a=>obtain⟨t,rfl⟩:=Value.isInt_shape h;rfl
  |inr a=>obtain⟨t,rfl⟩:=Value.isStrOf_shape h;rfl
 pyHash:=λ {_ _ _ k _ _} hv h=>by
  cases k with
  |inl a=>exact(intKind prog w).pyHash hv h
  |inr a=>exact(strKind prog w).pyHash hv h
 eqBool:=λ {_ _ _ a b _ _ _} hu hv h=>by
  cases a with
  |inl a=>cases b with
   |inl b=>
    refine(intKind prog w).eqBool (a:=a) (b:=b) hu hv ?_
    have e:decide (a=b)=decide ((Sum.inl a:cv)=Sum.inl b):=by simp
    rw[e];exact h
   |inr b=>
    obtain⟨t,rfl⟩:=Value.isInt_shape hu
    obtain⟨u,rfl⟩:=Value.isStrOf_shape hv
    exact ou (by simpa using h)
  |inr a=>cases b with
   |inl b=>
    obtain⟨t,rfl⟩:=Value.isStrOf_shape hu
    obtain⟨u,rfl⟩:=Value.isInt_shape hv
    exact or (by simpa using h)
   |inr b=>
    refine(strKind prog w).eqBool (a:=a) (b:=b) hu hv ?_
    have e:decide (a=b)=decide ((Sum.inr a:cv)=Sum.inr b):=by simp
    rw[e];exact h
 «strs»:=λ k x t v h=>by
  cases k with
  |inl a=>cases h
  |inr a=>exact(strKind prog w).strs a x t v h
noncomputable def dp:cv→D
 | .inl i=>.int i
 | .inr x=>.str x
structure dW where
 h:Heap
 U:Addr→Prop
 ρ:Nat→Addr×Addr
 N:Nat
section
variable(prog:Program)(w:World)
mutual
inductive b8(c:dW):Value→D→Prop
 |none:b8 c .none .none
 |bool (b:Bool):b8 c (.bool b) (.bool b)
 |int (i:Int) (t:Tok):b8 c (.int i t) (.int i)
 |str (x:Str) (t:Tok):b8 c (.str x t) (.str x)
 |tup {a:Addr} {o:Obj} {xs:Array Value} {n:Nat} {ds:List D} (ho:c.h.get? a=some o) (hc:o.cls= .type "tuple") (hd:o.data= .seq xs n) (hu:¬c.U a) (hi:bH c xs.toList ds):b8 c (.ref a) (.tup ds)
 |lst {a:Addr} {o:Obj} {xs:Array Value} {n:Nat} {ds:List D} {hn:o.dict=none} (ho:c.h.get? a=some o) (hc:o.cls= .type "list") (hd:o.data= .seq xs n) (hu:¬c.U a) (hi:bH c xs.toList ds):b8 c (.ref a) (.lst ds)
 |dct {a:Addr} {kvs:List (cv×Value)} {es:List (D×D)} (hm:c.h.DictOf (bV prog w) a kvs) (hu:¬c.U a) (hi:dg c kvs es) (lo:(a==sysModules)=false):b8 c (.ref a) (.dct es)
 |ob (i:Nat) (hi:i<c.N):b8 c (.ref (c.ρ i).1) (.ob i)
 |val (v:Value):b8 c v (.val v)
 |meth {a:Addr} {f:Value} {i:Nat} (ho:c.h.get? a=some (methodObj f (.ref (c.ρ i).1))) (hu:¬c.U a) (hi:i<c.N):b8 c (.ref a) (.meth f i)
inductive bH(c:dW):List Value→List D→Prop
 |nil:bH c [] []
 |cons {v:Value} {d:D} {vs:List Value} {ds:List D} (h:b8 c v d) (r:bH c vs ds):bH c (v::vs) (d::ds)
inductive dg(c:dW):List (cv×Value)→List (D×D)→Prop
 |nil:dg c [] []
 |cons {k:cv} {v:Value} {d:D} {kvs:List (cv×Value)} {es:List (D×D)} (h:b8 c v d) (r:dg c kvs es):dg c ((k,v)::kvs) ((dp k,d)::es)
end
end
structure dW.Le(c c':dW):Prop where
 same:∀a o,c.h.get? a=some o→¬c.U a→c'.h.get? a=some o∧¬c'.U a
 ids:∀i,i<c.N→c'.ρ i=c.ρ i
 next:c.N≤c'.N
theorem iv{prog:Program}{w:World}{K:Type}[DecidableEq K]{knd:KeyKind prog w K}{h:Heap}{a:Addr}{kvs:List (K×Value)}(x:h.DictOf knd a kvs):∃o,h.get? a=some o:=x.elim λ o x=>⟨o,x.elim λ _ x=>x.elim λ _ x=>x.1⟩
section
variable{prog:Program}{w:World}{c c':dW}
theorem bH.ind{motive:∀vs ds,bH prog w c vs ds→Prop}(nil:motive [] [] .nil)(cons:∀{v d vs ds} (h:b8 prog w c v d) (r:bH prog w c vs ds),motive vs ds r→motive (v::vs) (d::ds) (.cons h r)){vs:List Value}{ds:List D}(h:bH prog w c vs ds):motive vs ds h:=by
 refine @bH.rec prog w c (λ _ _ _=>True) motive (λ _ _ _=>True) ?_ ?_ ?_ ?_ ?_ ?_ ?_ ?_ ?_ ?_ nil (λ h r _ ih=>cons h r ih) ?_ ?_ vs ds h<;>intros<;>trivial
theorem dg.ind{motive:∀vs ds,dg prog w c vs ds→Prop}(nil:motive [] [] .nil)(cons:∀{k v d vs ds} (h:b8 prog w c v d) (r:dg prog w c vs ds),motive vs ds r→motive ((k,v)::vs) ((dp k,d)::ds) (.cons h r)){vs:List (cv×Value)}{ds:List (D×D)}(h:dg prog w c vs ds):motive vs ds h:=by
 refine @dg.rec prog w c (λ _ _ _=>True) (λ _ _ _=>True) motive ?_ ?_ ?_ ?_ ?_ ?_ ?_ ?_ ?_ ?_ ?_ ?_ nil (λ h r _ ih=>cons h r ih) vs ds h<;>intros<;>trivial
theorem b8.mono(h:b8 prog w c v d)(l:c.Le c'):b8 prog w c' v d:=
 @b8.rec prog w c (λ v d _=>b8 prog w c' v d) (λ v d _=>bH prog w c' v d) (λ v d _=>dg prog w c' v d) .none .bool .int .str
  (λ ho hc hd hu _ hi=>.tup (l.same _ _ ho hu).1 hc hd (l.same _ _ ho hu).2 hi)
  (@λ _ _ _ _ _ hn ho hc hd hu _ hi=>.lst (hn:=hn) (l.same _ _ ho hu).1 hc hd (l.same _ _ ho hu).2 hi)
  (λ hm hu _ lo hi=>(iv hm).elim λ o ho=>.dct (hm.at λ o h=>(l.same _ _ h hu).1) (l.same _ _ ho hu).2 hi lo)
  (λ i hi=>l.ids i hi▸b8.ob i (ao hi l.next)) .val
  (λ ho hu hi=>.meth (l.ids _ hi▸(l.same _ _ ho hu).1) (l.same _ _ ho hu).2 (ao hi l.next))
  .nil (λ _ _ h r=>.cons h r) .nil (λ _ _ h r=>.cons h r) v d h
theorem bH.mono(h:bH prog w c vs ds)(l:c.Le c'):bH prog w c' vs ds:=h.ind (motive:=λ v d _=>bH prog w c' v d) .nil λ h _=>.cons (h.mono l)
theorem dg.mono{vs:List (cv×Value)}{ds:List (D×D)}(h:dg prog w c vs ds)(l:c.Le c'):dg prog w c' vs ds:=h.ind (motive:=λ v d _=>dg prog w c' v d) .nil λ h _=>.cons (h.mono l)
theorem bH.length(h:bH prog w c vs ds):vs.length=ds.length:=h.ind (motive:=λ v d _=>v.length=d.length) rfl λ _ _=>ae (·+1)
theorem dg.length{vs:List (cv×Value)}{ds:List (D×D)}(h:dg prog w c vs ds):vs.length=ds.length:=h.ind (motive:=λ v d _=>v.length=d.length) rfl λ _ _=>ae (·+1)
theorem bH.append{ws:List Value}{es:List D}(h:bH prog w c vs ds)(k:bH prog w c ws es):bH prog w c (vs++ws) (ds++es):=h.ind (motive:=λ v d _=>bH prog w c (v++ws) (d++es)) k λ h _=>.cons h
theorem bH.reverse(h:bH prog w c vs ds):bH prog w c vs.reverse ds.reverse:=h.ind (motive:=λ v d _=>bH prog w c v.reverse d.reverse) .nil λ h _ ih=>by
 rw[List.reverse_cons,List.reverse_cons];exact ih.append (.cons h .nil)
theorem bH.get(h:bH prog w c vs ds){i:Nat}{d:D}(hd:ds[i]?=some d):∃v,vs[i]?=some v∧b8 prog w c v d:=
 h.ind (motive:=λ vs ds _=>∀i:Nat,ds[i]?=some d→∃v,vs[i]?=some v∧b8 prog w c v d) (λ _=>nsK) (λ {v} _ _ _ h _ ih i=>by
  induction i using Nat.casesAuxOn with
  |zero=>exact λ e=>⟨v,rfl,an e▸h⟩
  |succ i=>exact ih i) i hd
theorem bH.drop(h:bH prog w c vs ds)(n:Nat):bH prog w c (vs.drop n) (ds.drop n):=
 h.ind (motive:=λ v d _=>∀n,bH prog w c (v.drop n) (d.drop n)) (λ n=>by induction n using Nat.casesAuxOn<;>exact .nil) (λ h r ih n=>by induction n using Nat.casesAuxOn with
  |zero=>exact .cons h r
  |succ n=>exact ih n) n
theorem bH.take(h:bH prog w c vs ds)(n:Nat):bH prog w c (vs.take n) (ds.take n):=
 h.ind (motive:=λ v d _=>∀n,bH prog w c (v.take n) (d.take n)) (λ n=>by induction n using Nat.casesAuxOn<;>exact .nil) (λ h r ih n=>by induction n using Nat.casesAuxOn with
  |zero=>exact .nil
  |succ n=>exact .cons h (ih n)) n
theorem bH.set(h:bH prog w c vs ds)(n:Nat){v:Value}{d:D}(hv:b8 prog w c v d):bH prog w c (vs.set n v) (ds.set n d):=
 h.ind (motive:=λ vs ds _=>∀n,bH prog w c (vs.set n v) (ds.set n d)) (λ n=>by induction n using Nat.casesAuxOn<;>exact .nil) (λ h r ih n=>by induction n using Nat.casesAuxOn with
  |zero=>exact .cons hv r
  |succ n=>exact .cons h (ih n)) n
noncomputable def Inv(prog:Program)(w:World)(c:dW)(v:Value):D→Prop
 | .none=>v= .none
 | .bool b=>v= .bool b
 | .int i=>∃t,v= .int i t
 | .str x=>∃t,v= .str x t
 | .ob i=>i<c.N∧v= .ref (c.ρ i).1
 | .val u=>v=u
 |_=>True
theorem b8.inv(h:b8 prog w c v d):Inv prog w c v d:=by
 induction h using b8.casesOn with
 |int i t|str i t=>exact⟨t,rfl⟩
 |ob i hi=>exact⟨hi,rfl⟩
 |tup|lst|dct|meth=>exact ag
 |_=>exact rfl
theorem denI_none{motive:(v:Value)→b8 prog w c v .none→Prop}(none:motive .none .none){v:Value}(h:b8 prog w c v .none):motive v h:=by obtain rfl:v=_:=h.inv;exact none
theorem denI_bool{b:Bool}{motive:(v:Value)→b8 prog w c v (.bool b)→Prop}(bool:motive (.bool b) (.bool b)){v:Value}(h:b8 prog w c v (.bool b)):motive v h:=by obtain rfl:v=_:=h.inv;exact bool
theorem denI_int{i:Int}{motive:(v:Value)→b8 prog w c v (.int i)→Prop}(int:∀t,motive (.int i t) (.int i t)){v:Value}(h:b8 prog w c v (.int i)):motive v h:=by obtain⟨t,rfl⟩:∃t,v=_:=h.inv;exact int t
theorem denI_str{x:Str}{motive:(v:Value)→b8 prog w c v (.str x)→Prop}(str:∀t,motive (.str x t) (.str x t)){v:Value}(h:b8 prog w c v (.str x)):motive v h:=by obtain⟨t,rfl⟩:∃t,v=_:=h.inv;exact str t
theorem denI_val{u:Value}{motive:(v:Value)→b8 prog w c v (.val u)→Prop}(val:motive u (.val u)){v:Value}(h:b8 prog w c v (.val u)):motive v h:=by obtain rfl:v=_:=h.inv;exact val
theorem denI_ob{i:Nat}{motive:(v:Value)→b8 prog w c v (.ob i)→Prop}(ob:∀hi:i<c.N,motive (.ref (c.ρ i).1) (.ob i hi)){v:Value}(h:b8 prog w c v (.ob i)):motive v h:=by obtain⟨hi,rfl⟩:_∧v=_:=h.inv;exact ob hi
theorem denI_tup{motive:(v:Value)→b8 prog w c v (.tup ds)→Prop}(tup:∀{a:Addr} {o:Obj} {xs:Array Value} {n:Nat} (ho:c.h.get? a=some o) (hc:o.cls= .type "tuple") (hd:o.data= .seq xs n) (hu:¬c.U a) (hi:bH prog w c xs.toList ds),motive (.ref a) (.tup ho hc hd hu hi)){v:Value}(h:b8 prog w c v (.tup ds)):motive v h:=by cases h;apply tup<;>assumption
theorem denI_lst{motive:(v:Value)→b8 prog w c v (.lst ds)→Prop}(lst:∀{a:Addr} {o:Obj} {xs:Array Value} {n:Nat} {hn:o.dict=none} (ho:c.h.get? a=some o) (hc:o.cls= .type "list") (hd:o.data= .seq xs n) (hu:¬c.U a) (hi:bH prog w c xs.toList ds),motive (.ref a) (.lst (hn:=hn) ho hc hd hu hi)){v:Value}(h:b8 prog w c v (.lst ds)):motive v h:=by cases h;apply lst<;>assumption
theorem denI_dct{es:List (D×D)}{motive:(v:Value)→b8 prog w c v (.dct es)→Prop}(dct:∀{a:Addr} {kvs:List (cv×Value)} (hm:c.h.DictOf (bV prog w) a kvs) (hu:¬c.U a) (hi:dg prog w c kvs es) (lo:(a==sysModules)=false),motive (.ref a) (.dct hm hu hi lo)){v:Value}(h:b8 prog w c v (.dct es)):motive v h:=by cases h;apply dct<;>assumption
theorem denI_meth{f:Value}{i:Nat}{motive:(v:Value)→b8 prog w c v (.meth f i)→Prop}(meth:∀{a:Addr} (ho:c.h.get? a=some (methodObj f (.ref (c.ρ i).1))) (hu:¬c.U a) (hi:i<c.N),motive (.ref a) (.meth ho hu hi)){v:Value}(h:b8 prog w c v (.meth f i)):motive v h:=by cases h;apply meth<;>assumption
theorem denL_nil{motive:(v:List Value)→bH prog w c v []→Prop}(nil:motive [] .nil){v:List Value}(h:bH prog w c v []):motive v h:=by cases h;exact nil
theorem denL_cons{motive:(v:List Value)→bH prog w c v (d::ds)→Prop}(cons:∀{v:Value} {vs:List Value} (h:b8 prog w c v d) (r:bH prog w c vs ds),motive (v::vs) (.cons h r)){v:List Value}(h:bH prog w c v (d::ds)):motive v h:=by cases h;apply cons<;>assumption
end
end
section
variable{x:D}
section
variable{α β γ:Type}{G:Prop}{y:β}
theorem optK{x:Option α}{f:α→Option β}(k:∀a,x=some a→f a=some y→G):(match(generalizing:=false) x with|some a=>f a|none=>none)=some y→G:=by
 induction x using Option.casesOn with
 |none=>exact nsK
 |some a=>exact k a rfl
theorem optK0{x:Option α}{f:Option β}(k:x=none→f=some y→G):(match(generalizing:=false) x with|none=>f|some _=>none)=some y→G:=by
 induction x using Option.casesOn with
 |some a=>exact nsK
 |none=>exact k rfl
theorem booK{x:Bool}{f:Option β}(k:x=true→f=some y→G):(match(generalizing:=false) x with|true=>f|false=>none)=some y→G:=by
 induction x using Bool.casesOn with
 |false=>exact nsK
 |true=>exact k rfl
theorem booK0{x:Bool}{f:Option β}(k:x=false→f=some y→G):(match(generalizing:=false) x with|true=>none|false=>f)=some y→G:=by
 induction x using Bool.casesOn with
 |true=>exact nsK
 |false=>exact k rfl
theorem lisK{x:List α}{f:α→Option β}(k:∀a,x=[a]→f a=some y→G):(match(generalizing:=false) x with|[a]=>f a|_=>none)=some y→G:=by
 induction x using List.casesOn with
 |nil=>exact nsK
 |cons a r=>induction r using List.casesOn with
  |nil=>exact k a rfl
  |cons b r=>exact nsK
theorem intK{f:Int→Option β}(k:∀a,x= .int a→f a=some y→G):(match(generalizing:=false) x with| .int a=>f a|_=>none)=some y→G:=by
 induction x using D.casesOn<;>first|exact k _ rfl|exact nsK
theorem strK{f:Str→Option β}(k:∀a,x= .str a→f a=some y→G):(match(generalizing:=false) x with| .str a=>f a|_=>none)=some y→G:=by
 induction x using D.casesOn<;>first|exact k _ rfl|exact nsK
theorem lstK{f:List D→Option β}(k:∀a,x= .lst a→f a=some y→G):(match(generalizing:=false) x with| .lst a=>f a|_=>none)=some y→G:=by
 induction x using D.casesOn<;>first|exact k _ rfl|exact nsK
theorem tupK{f:List D→Option β}(k:∀a,x= .tup a→f a=some y→G):(match(generalizing:=false) x with| .tup a=>f a|_=>none)=some y→G:=by
 induction x using D.casesOn<;>first|exact k _ rfl|exact nsK
theorem dctK{f:List (D×D)→Option β}(k:∀a,x= .dct a→f a=some y→G):(match(generalizing:=false) x with| .dct a=>f a|_=>none)=some y→G:=by
 induction x using D.casesOn<;>first|exact k _ rfl|exact nsK
theorem obK{f:Nat→Option β}(k:∀a,x= .ob a→f a=some y→G):(match(generalizing:=false) x with| .ob a=>f a|_=>none)=some y→G:=by
 induction x using D.casesOn<;>first|exact k _ rfl|exact nsK
theorem valK{f:Value→Option β}(k:∀a,x= .val a→f a=some y→G):(match(generalizing:=false) x with| .val a=>f a|_=>none)=some y→G:=by
 induction x using D.casesOn<;>first|exact k _ rfl|exact nsK
theorem booDK{f:Bool→Option β}(k:∀a,x= .bool a→f a=some y→G):(match(generalizing:=false) x with| .bool a=>f a|_=>none)=some y→G:=by
 induction x using D.casesOn<;>first|exact k _ rfl|exact nsK
theorem nonK{f:Option β}(k:x= .none→f=some y→G):(match(generalizing:=false) x with| .none=>f|_=>none)=some y→G:=by
 induction x using D.casesOn<;>first|exact k rfl|exact nsK
end
end
section
variable{a:Addr}{xs:List (List Int×Addr×Value)}{es:List ((Int×Int)×D)}{h:Heap}{p:Pt}{W' P':Addr→Prop}{s':Shared}{t:Nat}
end
local macro_rules | `(tactic| split at $h:ident $_g:ident) => `(tactic| (revert $h:ident; (set_option smartUnfolding false in first | refine optK fun _ e $h => ?_ | refine booK fun e $h => ?_ | refine intK fun _ e $h => ?_ | refine strK fun _ e $h => ?_ | refine lstK fun _ e $h => ?_ | refine tupK fun _ e $h => ?_ | refine dctK fun _ e $h => ?_ | refine obK fun _ e $h => ?_ | refine valK fun _ e $h => ?_ | refine nonK fun e $h => ?_ | refine booDK fun _ e $h => ?_ | refine lisK fun _ e $h => ?_ | refine optK0 fun e $h => ?_ | refine booK0 fun e $h => ?_); try subst e))
section
variable{a:Addr}{xs:List (List Int×Addr×Value)}{es:List ((Int×Int)×D)}{h:Heap}{p:Pt}{W' P':Addr→Prop}{s':Shared}{t:Nat}
end
local macro_rules | `(tactic| cases $h:ident) => `(tactic| first | exact nsK $h | exact snK $h | exact ftK $h | exact tfK $h | induction $h:ident using someI | induction $h:ident using someI' | induction $h:ident using denI_val | induction $h:ident using denI_none | induction $h:ident using denI_int | induction $h:ident using denI_str | induction $h:ident using denI_ob | induction $h:ident using denI_bool | induction $h:ident using denI_lst | induction $h:ident using denI_tup | induction $h:ident using denI_dct | induction $h:ident using denI_meth | induction $h:ident using denL_nil | induction $h:ident using denL_cons | cases ($h))
section
variable{a:Addr}{xs:List (List Int×Addr×Value)}{es:List ((Int×Int)×D)}{h:Heap}{p:Pt}{W' P':Addr→Prop}{s':Shared}{t:Nat}
end
local macro_rules | `(tactic| omega) => `(tactic| first | lia | omega +splitDisjunctions)
section
variable{a:Addr}{xs:List (List Int×Addr×Value)}{es:List ((Int×Int)×D)}{h:Heap}{p:Pt}{W' P':Addr→Prop}{s':Shared}{t:Nat}
noncomputable def w2:List Nat→List Nat→Bool
 |[],[]=>true
 |a::x,b::y=>Nat.beq a b&&w2 x y
 |_,_=>false
theorem BJ(a:List Nat):∀b,w2 a b=decide (a=b):=by
 induction a with
 |nil=>exact λ b=>by induction b using List.casesOn<;>rfl
 |cons a x ih=>exact λ b=>by induction b using List.casesOn with
  |nil=>rfl
  |cons b y=>
   show(Nat.beq a b&&w2 x y)=_
   rw[k4,ih,←Bool.decide_and]
   exact decide_eq_decide.mpr (Iff.of_eq (List.cons.injEq ..).symm)
noncomputable def c7(a b:Str):Bool:=w2 a.cps.toList b.cps.toList
theorem eV(a b:Str):c7 a b=decide (a=b):=(BJ ..).trans (decide_eq_decide.mpr ⟨λ e=>ae Str.mk (Array.toList_inj.mp e),λ e=>e▸rfl⟩)
theorem lu(a:Str):c7 a a=true:=(eV a a).trans (bI rfl)
theorem tI{α:Type}(a b:Str)(x y:α):cond (c7 a b) x y=if a=b then x else y:=by rw[eV,Bool.cond_decide]
section
variable{α:Type}
noncomputable def bD:List (Str×α)→Str→Option α
 |[],_=>none
 |p::r,x=>cond (c7 p.1 x) (some p.2) (bD r x)
noncomputable def iB:List (Str×α)→Str→α→List (Str×α)
 |[],x,d=>[(x,d)]
 |p::r,x,d=>cond (c7 p.1 x) ((x,d)::r) (p::iB r x d)
theorem b9(p:Str×α)(r:List (Str×α))(x:Str):bD (p::r) x=if p.1=x then some p.2 else bD r x:=tI ..
theorem x8(p:Str×α)(r:List (Str×α))(x:Str)(d:α):iB (p::r) x d=if p.1=x then(x,d)::r else p::iB r x d:=tI ..
theorem xl{x y:Str}{a b:α}:(if x=y then a else b)=if y=x then a else b:=ite_congr (propext eq_comm) (λ _=>rfl) λ _=>rfl
theorem jk(l:List (Str×α))(x:Str)(d:α)(y:Str):bD (iB l x d) y=if y=x then some d else bD l y:=by
 induction l with
 |nil=>exact(b9 ..).trans xl
 |cons p r ih=>
  rw[x8]
  by_cases hp:p.1=x
  ·subst hp
   rw[aZ rfl,b9,b9,xl]
   exact ite_congr rfl (λ _=>rfl) λ n=>(aI λ e=>n e.symm).symm
  ·rw[aI hp,b9,ih,b9]
   by_cases h:p.1=y
   ·subst h;rw[aZ rfl,aZ rfl,aI hp]
   ·rw[aI h,aI h]
theorem yA{l:List (Str×α)}{x:Str}{d:α}(h:bD l x=some d):x∈l.map (·.1):=by
 induction l with
 |nil=>exact nsK h
 |cons p r ih=>
  rw[b9]at h
  by_cases hp:p.1=x
  ·exact hp▸aF ..
  ·exact aK _ (ih ((aI hp).symm.trans h))
end
section
variable(prog:Program)(w:World)
inductive eT(c:dW):List (List Int×Addr×Value)→List ((Int×Int)×D)→Prop
 |nil:eT c [] []
 |cons {i j:Int} {a:Addr} {v:Value} {d:D} {xs:List (List Int×Addr×Value)} {es:List ((Int×Int)×D)} (hu:¬c.U a) (h:b8 prog w c v d) (r:eT c xs es):eT c (([i,j],a,v)::xs) (((i,j),d)::es)
inductive HP(c:dW)(x:Addr×Addr)(ds:List D):Prop
 |mk (xs:Array Value) (n:Nat) (e:x.2=x.1) (ho:IsL c.h x.1 xs n) (hi:bH prog w c xs.toList ds)
inductive OQ(c:dW)(x:Addr×Addr)(es:List (D×D)):Prop
 |mk (kvs:List (cv×Value)) (e:x.2=x.1) (hm:c.h.DictOf (bV prog w) x.1 kvs) (hi:dg prog w c kvs es)
inductive ON(c:dW)(x:Addr×Addr)(es:List ((Int×Int)×D)):Prop
 |mk (xs:List (List Int×Addr×Value)) (e:x.2=x.1) (hm:c.h.DictOfH (tupleKind (intKind prog w)) x.1 xs) (hi:eT prog w c xs es)
inductive HV(c:dW)(o:Option Value)(d:D):Prop
 |mk (v:Value) (e:o=some v) (h:b8 prog w c v d)
inductive Oo(c:dW)(x:Addr×Addr)(C:Addr)(fs:List (Str×D)):Prop
 |mk (ox:Obj) (m:SV) (e:x.2≠x.1) (hx:c.h.get? x.1=some ox) (hc:ox.cls= .ref C) (hn:∀cd,ox.data≠.cls cd) (hdx:ox.dict=some x.2) (hns:c.h.Ns1 x.2 m)
   (hf:∀f d,bD fs f=some d→HV prog w c (m f) d) (hf':∀f,bD fs f=none→m f=none)
noncomputable def fO(c:dW)(x:Addr×Addr):aY→Prop
 | .list ds=>HP prog w c x ds
 | .dict es=>OQ prog w c x es
 | .pdict es=>ON prog w c x es
 | .inst C fs=>Oo prog w c x C fs
inductive fT(ρ:Nat→Addr×Addr)(σ:List (Nat×aY))(a:Addr):Prop
 |mk (i:Nat) (o:aY) (h:aW σ i=some o) (e:a=(ρ i).1∨a=(ρ i).2)
structure Pt where
 s:Shared
 ρ:Nat→Addr×Addr
 st:St
noncomputable def Pt.U(P:Addr→Prop)(p:Pt)(a:Addr):Prop:=fT p.ρ p.st.σ a∨P a
noncomputable def Pt.cfg(P:Addr→Prop)(p:Pt):dW:=⟨p.s.heap,p.U P,p.ρ,p.st.next⟩
variable(h₁:Heap)
structure dJ(P:Addr→Prop)(p:Pt):Prop where
 keep:∀b o,h₁.get? b=some o→p.s.heap.get? b=some o
 size:h₁.objs.size<p.s.heap.objs.size
 top:P h₁.objs.size
 lt':∀i o,aW p.st.σ i=some o→i<p.st.next
 obj:∀i o,aW p.st.σ i=some o→fO prog w (p.cfg P) (p.ρ i) o
 new:∀i o,aW p.st.σ i=some o→h₁.objs.size<(p.ρ i).1∧h₁.objs.size<(p.ρ i).2
 own:∀i o,aW p.st.σ i=some o→¬P (p.ρ i).1∧¬P (p.ρ i).2
 sep:∀i j o o',aW p.st.σ i=some o→aW p.st.σ j=some o'→i≠j→(p.ρ i).1≠(p.ρ j).1∧(p.ρ i).1≠(p.ρ j).2∧(p.ρ i).2≠(p.ρ j).2
 priv:∀a,P a→a<p.s.heap.objs.size∧h₁.objs.size≤a
structure Mv(P W:Addr→Prop)(p q:Pt):Prop where
 rep:dJ prog w h₁ P q
 gens:q.s.gens=p.s.gens
 drawn:q.s.drawn=p.s.drawn
 os:q.s.os=p.s.os
 size:p.s.heap.objs.size≤q.s.heap.objs.size
 same:∀a o,p.s.heap.get? a=some o→¬fT p.ρ p.st.σ a→¬W a→q.s.heap.get? a=some o∨(a=h₁.objs.size∧∃sl,q.s.heap.get? a=some {o with slots:=sl})
 ids:∀i,i<p.st.next→q.ρ i=p.ρ i
 next:p.st.next≤q.st.next
 dom:∀i o,aW q.st.σ i=some o→(i<p.st.next∧∃o',aW p.st.σ i=some o')∨(p.s.heap.objs.size≤(q.ρ i).1∧p.s.heap.objs.size≤(q.ρ i).2)
end
section
variable{prog:Program}{w:World}{h₁:Heap}{P W:Addr→Prop}{p q r:Pt}{c c':dW}
theorem eT.mono(h:eT prog w c xs es)(l:c.Le c'):(∀x∈xs,∃o,c.h.get? x.2.1=some o)→eT prog w c' xs es:=by
 induction h with
 |nil=>exact λ _=>.nil
 |cons hu h r ih=>exact λ hk=>(hk _ (aF ..)).elim λ o ho=>.cons (l.same _ _ ho hu).2 (h.mono l) (ih λ x hx=>hk x (aK _ hx))
theorem eT.hu(h:eT prog w c xs es):∀x∈xs,¬c.U x.2.1:=by
 induction h with
 |nil=>exact λ _=>nofun
 |cons hu h r ih=>exact bv.mpr ⟨hu,ih⟩
theorem iw(hm:h.DictOfH (tupleKind (intKind prog w)) a xs):∀x∈xs,∃o,h.get? x.2.1=some o:=λ x hx=>
 hm.elim λ _ h=>h.elim λ _ h=>h.elim λ _ h=>(h.2.2.2.2.1 x hx).elim λ o h=>h.elim λ _ h=>h.elim λ _ h=>⟨o,h.1⟩
theorem rW{h':Heap}(hm:h.DictOfH (tupleKind (intKind prog w)) a xs)(e:∀o,h.get? a=some o→h'.get? a=some o)(ek:∀x∈xs,∀o,h.get? x.2.1=some o→h'.get? x.2.1=some o):h'.DictOfH (tupleKind (intKind prog w)) a xs:=
 hm.elim λ o h=>h.elim λ es h=>h.elim λ ep h=>⟨o,es,ep,e _ h.1,h.2.1,h.2.2.1,h.2.2.2.1,λ x hx=>(h.2.2.2.2.1 x hx).elim λ o h=>h.elim λ i h=>h.elim λ n h=>⟨o,i,n,ek x hx _ h.1,h.2⟩,h.2.2.2.2.2⟩
theorem HV.imp{prog prog':Program}{w w':World}{c c':dW}{o o':Option Value}{d:D}(h:HV prog w c o d)(k:∀v,b8 prog w c v d→b8 prog' w' c' v d)(e:o'=o):HV prog' w' c' o' d:=by
 obtain⟨v,e',h⟩:=h
 exact⟨v,e.trans e',k v h⟩
theorem fO.mono{x:Addr×Addr}{o:aY}(h:fO prog w c x o)(l:c.Le c')(h1:∀o,c.h.get? x.1=some o→c'.h.get? x.1=some o)(h2:∀o,c.h.get? x.2=some o→c'.h.get? x.2=some o):fO prog w c' x o:=by
 induction o using aY.casesOn with
 |list=>obtain⟨_,_,e,ho,hi⟩:=h;exact⟨_,_,e,h1 _ ho,hi.mono l⟩
 |dict=>obtain⟨_,e,hm,hi⟩:=h;exact⟨_,e,hm.at h1,hi.mono l⟩
 |pdict=>obtain⟨_,e,hm,hi⟩:=h;exact⟨_,e,rW hm h1 λ x hx o ho=>(l.same _ _ ho (hi.hu x hx)).1,hi.mono l (iw hm)⟩
 |inst=>obtain⟨_,_,e,hx,hc,hn,hdx,hns,hf,hf'⟩:=h;exact⟨_,_,e,h1 _ hx,hc,hn,hdx,hns.at h2,λ f d hd=>(hf f d hd).imp (λ _=>(b8.mono · l)) rfl,hf'⟩
theorem Mv.sameX(m:Mv prog w h₁ P W p q){a:Addr}{o:Obj}(ho:p.s.heap.get? a=some o)(hf:¬fT p.ρ p.st.σ a)(hw:¬W a)(hn:a≠h₁.objs.size):q.s.heap.get? a=some o:=
 (m.same a o ho hf hw).elim id λ h=>absurd h.1 hn
theorem Mv.up(m:Mv prog w h₁ P W p q){a:Addr}{o:Obj}(ho:p.s.heap.get? a=some o)(hf:¬fT p.ρ p.st.σ a)(hw:¬W a):∃sl,q.s.heap.get? a=some {o with slots:=sl}:=
 (m.same a o ho hf hw).elim (λ h=>⟨o.slots,h⟩) λ h=>h.2
theorem Mv.old(m:Mv prog w h₁ P W p q){a:Addr}(h:fT q.ρ q.st.σ a)(ha:a<p.s.heap.objs.size):fT p.ρ p.st.σ a:=by
 obtain⟨i,o,hi,he⟩:=h
 exact(m.dom i o hi).elim (λ ⟨hlt,o',ho⟩=>⟨i,o',ho,m.ids i hlt▸he⟩) λ g=>absurd ha (he.elim (λ e=>e▸aN.mpr g.1) λ e=>e▸aN.mpr g.2)
theorem Mv.le(m:Mv prog w h₁ P W p q)(hW:∀a,W a→P a):(p.cfg P).Le (q.cfg P) where
 same:=λ a o ho hu=>
  have hP:¬P a:=λ h=>hu (.inr h)
  ⟨m.sameX ho (λ h=>hu (.inl h)) (λ h=>hP (hW a h)) λ e=>hP (e▸m.rep.top),λ h=>h.elim (λ h=>hu (.inl (m.old h (az ho)))) hP⟩
 ids:=m.ids
 next:=m.next
theorem dJ.lt(R:dJ prog w h₁ P p){i:Nat}{o:aY}(h:aW p.st.σ i=some o):(p.ρ i).1<p.s.heap.objs.size∧(p.ρ i).2<p.s.heap.objs.size:=by
 have O:=R.obj i o h
 clear h
 have two {o:Obj} (e:(p.ρ i).2=(p.ρ i).1) (ho:p.s.heap.get? (p.ρ i).1=some o):(p.ρ i).1<p.s.heap.objs.size∧(p.ρ i).2<p.s.heap.objs.size:=⟨az ho,e▸az ho⟩
 induction o using aY.casesOn with
 |list=>obtain⟨_,_,e,ho,_⟩:=O;exact two e ho
 |dict=>obtain⟨_,e,hm,_⟩:=O;exact(iv hm).elim λ o ho=>two e ho
 |pdict=>obtain⟨_,e,hm,_⟩:=O;exact hm.elim λ o h=>h.elim λ _ h=>h.elim λ _ h=>two e h.1
 |inst=>obtain⟨_,_,e,hx,hc,hn,hdx,hns,_⟩:=O;exact⟨az hx,hns.ns.lt⟩
theorem dJ.footLt(R:dJ prog w h₁ P p){a:Addr}(h:fT p.ρ p.st.σ a):a<p.s.heap.objs.size:=let⟨_,_,hi,e⟩:=h;e.elim (λ e=>e▸(R.lt hi).1) λ e=>e▸(R.lt hi).2
theorem dJ.footNot(R:dJ prog w h₁ P p){a:Addr}(h:fT p.ρ p.st.σ a):¬P a:=let⟨i,o,hi,e⟩:=h;e.elim (λ e=>e▸(R.own i o hi).1) λ e=>e▸(R.own i o hi).2
theorem Mv.refl(R:dJ prog w h₁ P p):Mv prog w h₁ P W p p:=
 ⟨R,rfl,rfl,rfl,aq _,λ _ _ h _ _=>.inl h,λ _ _=>rfl,aq _,λ i o h=>.inl ⟨R.lt' i o h,o,h⟩⟩
theorem Mv.trans(x:Mv prog w h₁ P W p q)(y:Mv prog w h₁ P W' q r)(hW:∀a,W' a→a<p.s.heap.objs.size→W a):Mv prog w h₁ P W p r where
 rep:=y.rep
 gens:=y.gens.trans x.gens
 drawn:=y.drawn.trans x.drawn
 os:=y.os.trans x.os
 size:=ad x.size y.size
 same:=λ a o ho hf hw=>
  have nf:¬fT q.ρ q.st.σ a:=λ h=>hf (x.old h (az ho))
  have nw:¬W' a:=λ h=>hw (hW a h (az ho))
  (x.same a o ho hf hw).elim (λ h=>y.same a o h nf nw) λ h=>h.2.elim λ sl h'=>.inr ⟨h.1,(y.up h' nf nw).elim λ sl h=>⟨sl,h⟩⟩
 ids:=λ i hi=>(y.ids i (ao hi x.next)).trans (x.ids i hi)
 next:=ad x.next y.next
 dom:=λ i o hi=>(y.dom i o hi).elim (λ g=>g.2.elim λ o' ho'=>(x.dom i o' ho').imp id λ h=>by rw[y.ids i g.1];exact h) λ g=>.inr ⟨ad x.size g.1,ad x.size g.2⟩
theorem Mv.weaken(x:Mv prog w h₁ P W p q)(hW:∀a,W a→W' a):Mv prog w h₁ P W' p q:=
 {x with same:=λ a o ho hf hw=>x.same a o ho hf λ h=>hw (hW a h)}
theorem dJ.into(R:dJ prog w h₁ P p)(hk:∀b o,p.s.heap.get? b=some o→s'.heap.get? b=some o)(hsz:p.s.heap.objs.size≤s'.heap.objs.size)(hP:∀a,P' a→P a∨(p.s.heap.objs.size≤a∧a<s'.heap.objs.size))(ht:P' h₁.objs.size):dJ prog w h₁ P' ⟨s',p.ρ,p.st⟩ where
 keep:=λ b o h=>hk _ _ (R.keep b o h)
 size:=ao R.size hsz
 top:=ht
 lt':=R.lt'
 obj:=λ i o h=>(R.obj i o h).mono ⟨λ a o ho hu=>⟨hk _ _ ho,λ h=>h.elim (λ h=>hu (.inl h)) λ h=>(hP a h).elim (λ h=>hu (.inr h)) λ h=>aN.mpr h.1 (az ho)⟩,λ _ _=>rfl,aq _⟩ (λ o h=>hk _ _ h) λ o h=>hk _ _ h
 new:=R.new
 own:=λ i o h=>⟨λ g=>(hP _ g).elim (R.own i o h).1 λ g=>aN.mpr g.1 (R.lt h).1,λ g=>(hP _ g).elim (R.own i o h).2 λ g=>aN.mpr g.1 (R.lt h).2⟩
 sep:=R.sep
 priv:=λ a h=>(hP a h).elim (λ h=>(R.priv a h).imp (ao · hsz) id) λ h=>⟨h.2,bJ (ao R.size h.1)⟩
theorem dJ.outOf(R:dJ prog w h₁ P' p)(ht:P h₁.objs.size)(hP:∀a,P a→P' a):dJ prog w h₁ P p where
 keep:=R.keep
 size:=R.size
 top:=ht
 lt':=R.lt'
 obj:=λ i o h=>(R.obj i o h).mono ⟨λ a o ho hu=>⟨ho,λ h=>hu (h.imp (λ x=>x) (hP a))⟩,λ _ _=>rfl,aq _⟩ (λ _ h=>h) λ _ h=>h
 new:=R.new
 own:=λ i o h=>⟨λ g=>(R.own i o h).1 (hP _ g),λ g=>(R.own i o h).2 (hP _ g)⟩
 sep:=R.sep
 priv:=λ a h=>R.priv a (hP a h)
theorem Mv.outOf(m:Mv prog w h₁ P' W' p q)(ht:P h₁.objs.size)(hP:∀a,P a→P' a)(hW:∀a,W' a→W a∨p.s.heap.objs.size≤a):Mv prog w h₁ P W p q:=
 {m with
  rep:=m.rep.outOf ht hP
  same:=λ a _ ho hf hw=>m.same a _ ho hf λ h=>(hW a h).elim hw λ g=>absurd (az ho) (aN.mpr g)}
theorem dM(hP:∀a,P a→P' a):(p.cfg P').Le (p.cfg P):=⟨λ a o ho hu=>⟨ho,λ h=>hu (h.imp (λ x=>x) (hP a))⟩,λ _ _=>rfl,aq _⟩
theorem tO(hk:∀b o,p.s.heap.get? b=some o→s'.heap.get? b=some o)(hP:∀a,P' a→P a∨p.s.heap.objs.size≤a):(p.cfg P).Le (Pt.cfg P' ⟨s',p.ρ,p.st⟩):=
 ⟨λ a o ho hu=>⟨hk _ _ ho,λ h=>h.elim (λ h=>hu (.inl h)) λ h=>(hP a h).elim (λ h=>hu (.inr h)) λ h=>aN.mpr h (az ho)⟩,λ _ _=>rfl,aq _⟩
theorem dJ.grow(R:dJ prog w h₁ P p)(hk:∀b o,p.s.heap.get? b=some o→s'.heap.get? b=some o)(hsz:p.s.heap.objs.size≤s'.heap.objs.size):dJ prog w h₁ P ⟨s',p.ρ,p.st⟩:=
 R.into hk hsz (λ _ h=>.inl h) R.top
theorem Mv.grow(R:dJ prog w h₁ P p)(hk:∀b o,p.s.heap.get? b=some o→s'.heap.get? b=some o)(hsz:p.s.heap.objs.size≤s'.heap.objs.size)(hg:s'.gens=p.s.gens)(hd:s'.drawn=p.s.drawn)(ho:s'.os=p.s.os):Mv prog w h₁ P W p ⟨s',p.ρ,p.st⟩:=
 ⟨R.grow hk hsz,hg,hd,ho,hsz,λ a o h _ _=>.inl (hk a o h),λ _ _=>rfl,aq _,λ i o h=>.inl ⟨R.lt' i o h,o,h⟩⟩
theorem Mv.tick(R:dJ prog w h₁ P p):Mv prog w h₁ P W p ⟨{p.s with toks:=t},p.ρ,p.st⟩:=Mv.grow R (λ _ _ h=>h) (aq _) rfl rfl rfl
theorem Mv.push(R:dJ prog w h₁ P p)(o:Obj):Mv prog w h₁ P W p ⟨{p.s with heap:=p.s.heap.push o,toks:=t},p.ρ,p.st⟩:=
 Mv.grow R (λ _ _ h=>ah _ h) (by show _≤(p.s.heap.push o).objs.size;rw[bA];exact bT _) rfl rfl rfl
end
end
section
variable{vs:List Value}{o:aY}{P:Addr→Prop}{prog:Program}{w:World}{h₁:Heap}{ds:List D}{x:Addr×Addr}{i:Nat}{s':Shared}
structure Cx where
 prog:Program
 w:World
 h₁:Heap
 A:Around
 P:Addr→Prop
 W:Addr→Prop
abbrev Cx.m(X:Cx):Model:=model X.prog X.w
abbrev Cx.rep(X:Cx)(p:Pt):Prop:=dJ X.prog X.w X.h₁ X.P p
abbrev Cx.mv(X:Cx)(p q:Pt):Prop:=Mv X.prog X.w X.h₁ X.P X.W p q
abbrev Cx.den(X:Cx)(p:Pt)(v:Value)(d:D):Prop:=b8 X.prog X.w (p.cfg X.P) v d
abbrev Cx.denL(X:Cx)(p:Pt)(v:List Value)(d:List D):Prop:=bH X.prog X.w (p.cfg X.P) v d
abbrev Cx.ok(X:Cx):Prop:=∀a,X.W a→X.P a
noncomputable def GA(X:Cx){α β:Type}(rel:Pt→α→β→Prop)(p:Pt)(t:Sem α)(b:β)(st:St):Prop:=
 ∀(Q:α→Shared→Prop) (E:VS),(∀a q,X.mv p q→q.st=st→rel q a b→Q a q.s)→wpAny X.m X.A t Q E p.s
section
variable{X:Cx}{α β γ δ:Type}{rel:Pt→α→β→Prop}{rel':Pt→γ→δ→Prop}{p:Pt}{st st':St}{b:β}{c:δ}
end
section
variable{X:Cx}{p:Pt}{st st':St}{d:D}
theorem jV{M:Model}{A:Around}{keep:List Value}{Q:Unit→Shared→Prop}{E:VS}{s:Shared}(h:Q () s):wpAny M A (release vs keep) Q E s:=by
 intro Γ pos hΓ
 rw[Sem.wp_release]
 exact h
theorem fY{q:Pt}{v:List Value}{d:List D}(m:X.mv p q)(ok:X.ok)(h:X.denL p v d):X.denL q v d:=bH.mono h (m.le ok)
noncomputable def eR:Expr→Bool
 | .Starred .. =>true
 |_=>false
theorem cx{e:Expr}{r:List Expr}{env:Env}:eR e=false→starEach (e::r) env=(false,eval e env)::starEach r env:=by
 induction e using Expr.casesOn with
 |Starred=>exact nofun
 |_=>exact λ _=>rfl
theorem cK{pos:Pos}{t:Sem Value}{r:List (Bool×Sem Value)}:backTo pos ((false,t)::r)=(false,t)::backTo pos r:=rfl
abbrev Pt.pushO(p:Pt)(o:Obj):Pt:=⟨{p.s with heap:=p.s.heap.push o},p.ρ,p.st⟩
theorem hV{p:Pt}{o:Obj}:(p.cfg P).Le ((p.pushO o).cfg P):=⟨λ _ _ ho hu=>⟨ah _ ho,hu⟩,λ _ _=>rfl,aq _⟩
theorem dJ.new_U(R:dJ prog w h₁ P p):¬p.U P p.s.heap.objs.size:=λ h=>h.elim (λ h=>dK _ (R.footLt h)) λ h=>dK _ (R.priv _ h).1
theorem BM{T:String}(R:X.rep p)(hi:X.denL p vs ds)(hsz:vs.length≤sizeLine)(k:∀q,X.mv p q→q.st=p.st→(∃o,q.s.heap.get? p.s.heap.objs.size=some o∧o.cls= .type T∧o.data= .seq vs.toArray 0∧o.dict=none)→¬q.U X.P p.s.heap.objs.size→X.denL q vs ds→X.den q (.ref p.s.heap.objs.size) d):
  GA X X.den p (newObj (.type T) (.seq vs.toArray)) d p.st:=λ Q E kQ=>
 wpAny_newObj_type (kQ _ (p.pushO _) (Mv.push R _) rfl (k _ (Mv.push R _) rfl ⟨_,Heap.get?_push_size _ rfl,rfl,rfl,rfl⟩ R.new_U (hi.mono hV))) (ad (aM (List.size_toArray ..)) hsz)
theorem sH(R:X.rep p)(hi:X.denL p vs ds)(hsz:ds.length≤sizeLine):GA X X.den p (newTuple vs) (.tup ds) p.st:=
 BM R hi (hi.length.symm▸hsz) λ _ _ _ ⟨_,ho,hc,hd,_⟩ hu hi'=>.tup ho hc hd hu hi'
theorem vc(R:X.rep p)(hi:X.denL p vs ds)(hsz:ds.length≤sizeLine):GA X X.den p (newList vs) (.lst ds) p.st:=
 BM R hi (hi.length.symm▸hsz) λ _ _ _ ⟨_,ho,hc,hd,hn⟩ hu hi'=>.lst (hn:=hn) ho hc hd hu hi'
end
section
variable{X:Cx}{p:Pt}
noncomputable def St.add(st:St)(o:aY):St:=⟨(st.next,o)::st.σ,st.next+1⟩
noncomputable def Pt.addρ(p:Pt)(x:Addr×Addr):Nat→Addr×Addr:=λ i=>if i=p.st.next then x else p.ρ i
theorem iS{σ:List (Nat×aY)}{n:Nat}{o':aY}(h:aW ((n,o)::σ) i=some o'):(i=n∧o'=o)∨(n≠i∧aW σ i=some o'):=by
 rw[c9]at h
 by_cases e:n=i
 ·exact .inl ⟨e.symm,(an ((aZ e).symm.trans h)).symm⟩
 ·exact .inr ⟨e,(aI e).symm.trans h⟩
theorem jr{F:Nat→aY→Prop}(new:F p.st.next o)(old:∀i o',aW p.st.σ i=some o'→F i o')(i:Nat)(o':aY)(h:aW (p.st.add o).σ i=some o'):F i o':=
 (iS h).elim (λ e=>e.1▸e.2▸new) λ h=>old i o' h.2
theorem ja:p.addρ x p.st.next=x:=aZ rfl
theorem k7(h:i<p.st.next):p.addρ x i=p.ρ i:=aI (aL h)
theorem k8(F:Addr×Addr→aY→Prop)(lt:∀i o,aW p.st.σ i=some o→i<p.st.next)(new:F x o)(old:∀i o',aW p.st.σ i=some o'→F (p.ρ i) o'):∀i o',aW (p.st.add o).σ i=some o'→F (p.addρ x i) o':=
 jr (F:=λ i o'=>F (p.addρ x i) o') (by rw[ja];exact new) λ i o' h=>by rw[k7 (lt _ _ h)];exact old i o' h
theorem kX:b8 prog w (Pt.cfg P ⟨s',p.addρ x,p.st.add o⟩) (.ref x.1) (.ob p.st.next):=
 have d:=b8.ob (prog:=prog) (w:=w) (c:=Pt.cfg P ⟨s',p.addρ x,p.st.add o⟩) p.st.next (Nat.lt_succ_self _)
 (ae (λ x:Addr×Addr=>Value.ref x.1) ja:Value.ref (p.addρ x p.st.next).1=_)▸d
theorem dJ.addO{own:List Addr}{W:Addr→Prop}(R:dJ prog w h₁ P p)(hk:∀b o,b∉own→p.s.heap.get? b=some o→s'.heap.get? b=some o)(hP:∀b∈own,P b)(hW:∀b∈own,W b)(hsz:p.s.heap.objs.size≤s'.heap.objs.size)(hg:s'.gens=p.s.gens)(hd:s'.drawn=p.s.drawn)(hos:s'.os=p.s.os)(h1:p.s.heap.objs.size≤x.1)(h2:p.s.heap.objs.size≤x.2)(ho:∀c:dW,(p.cfg P).Le c→c.h=s'.heap→fO prog w c x o):
  Mv prog w h₁ P W p ⟨s',p.addρ x,p.st.add o⟩:=by
 have old {i o} (h:aW p.st.σ i=some o):p.addρ x i=p.ρ i:=k7 (R.lt' _ _ h)
 have nf {b} (hb:fT p.ρ p.st.σ b):b∉own:=λ m=>R.footNot hb (hP b m)
 have l:(p.cfg P).Le (Pt.cfg P ⟨s',p.addρ x,p.st.add o⟩):=⟨λ a o' ha hu=>⟨hk _ _ (λ m=>hu (.inr (hP _ m))) ha,λ h=>h.elim
  (λ ⟨i,o2,hi,he⟩=>k8 (λ y _=>(a=y.1∨a=y.2)→False) R.lt'
   (λ he=>absurd (az ha) (he.elim (λ e=>e▸aN.mpr h1) λ e=>e▸aN.mpr h2)) (λ i o hi he=>hu (.inl ⟨i,o,hi,he⟩)) i o2 hi he) λ h=>hu (.inr h)⟩,
  λ i hi=>k7 hi,bT _⟩
 have nP {a} (ha:p.s.heap.objs.size≤a) (hP:P a):False:=aN.mpr ha (R.priv a hP).1
 refine⟨⟨λ b o h=>hk _ _ (λ m=>aN.mpr (R.priv b (hP b m)).2 (az h)) (R.keep b o h),ao R.size hsz,R.top,jr (Nat.lt_succ_self _) λ i o h=>Nat.lt_succ_of_lt (R.lt' i o h),
  k8 (fO prog w _) R.lt' (ho _ l rfl) λ i o h=>(R.obj i _ h).mono l (λ _ g=>hk _ _ (nf ⟨i,o,h,.inl rfl⟩) g) λ _ g=>hk _ _ (nf ⟨i,o,h,.inr rfl⟩) g,
  k8 (λ y _=>h₁.objs.size<y.1∧h₁.objs.size<y.2) R.lt' ⟨ao R.size h1,ao R.size h2⟩ R.new,
  k8 (λ y _=>¬P y.1∧¬P y.2) R.lt' ⟨nP h1,nP h2⟩ R.own,?_,λ a h=>⟨ao (R.priv a h).1 hsz,(R.priv a h).2⟩⟩,
  hg,hd,hos,hsz,λ a o h _ hw=>.inl (hk a o (λ m=>hw (hW a m)) h),λ i hi=>k7 hi,bT _,
  jr (F:=λ i _=>(i<p.st.next∧∃o',aW p.st.σ i=some o')∨(p.s.heap.objs.size≤(p.addρ x i).1∧p.s.heap.objs.size≤(p.addρ x i).2)) (.inr (by rw[ja];exact⟨h1,h2⟩)) λ i o h=>.inl ⟨R.lt' i o h,o,h⟩⟩
 let F (y z:Addr×Addr):=y.1≠z.1∧y.1≠z.2∧y.2≠z.2
 exact λ i j oi oj hi hj=>jr (F:=λ i _=>i≠j→F (p.addρ x i) (p.addρ x j)) (jr (F:=λ j _=>p.st.next≠j→F (p.addρ x p.st.next) (p.addρ x j)) (λ h=>absurd rfl h)
   (λ j o hj _=>by
    rw[ja,old hj]
    exact⟨bM (ao (R.lt hj).1 h1),bM (ao (R.lt hj).2 h1),bM (ao (R.lt hj).2 h2)⟩) j oj hj)
  (λ i oi hi=>jr (F:=λ j _=>i≠j→F (p.addρ x i) (p.addρ x j)) (λ _=>by
    rw[ja,old hi]
    exact⟨aL (ao (R.lt hi).1 h1),aL (ao (R.lt hi).1 h2),aL (ao (R.lt hi).2 h2)⟩)
   (λ j oj hj=>by
    rw[old hi,old hj]
    exact R.sep i j oi oj hi hj) j oj hj) i oi hi
theorem dJ.add{W:Addr→Prop}(R:dJ prog w h₁ P p)(hk:∀b o,p.s.heap.get? b=some o→s'.heap.get? b=some o)(hsz:p.s.heap.objs.size≤s'.heap.objs.size)(hg:s'.gens=p.s.gens)(hd:s'.drawn=p.s.drawn)(hos:s'.os=p.s.os)(h1:p.s.heap.objs.size≤x.1)(h2:p.s.heap.objs.size≤x.2)(ho:∀c:dW,(p.cfg P).Le c→c.h=s'.heap→fO prog w c x o):
  Mv prog w h₁ P W p ⟨s',p.addρ x,p.st.add o⟩:=
 dJ.addO (own:=[]) R (λ b o _ h=>hk b o h) (λ _ h=>by cases h) (λ _ h=>by cases h) hsz hg hd hos h1 h2 ho
theorem sI(R:X.rep p)(hi:X.denL p vs ds)(hsz:ds.length≤sizeLine):GA X X.den p (newList vs) (.ob p.st.next) (p.st.add (.list ds)):=λ Q E kQ=>
 wpAny_newObj_type (kQ _ ⟨{p.s with heap:=p.s.heap.push {cls:= .type "list",dict:=none,data:= .seq vs.toArray}},p.addρ (p.s.heap.objs.size,p.s.heap.objs.size),p.st.add (.list ds)⟩
  (dJ.add (W:=X.W) (o:= .list ds) R (λ b o h=>ah _ h) (bA .. ▸bT _) rfl rfl rfl (aq _) (aq _) λ c l e=>
   ⟨_,0,rfl,e▸Heap.get?_push_size _ rfl,hi.mono l⟩) rfl kX) (ad (aM ((List.size_toArray ..).trans hi.length)) hsz)
theorem sJ(R:X.rep p):GA X X.den p (newDict) (.ob p.st.next) (p.st.add (.dict [])):=λ Q E kQ=>
 wpAny_newObj_type (kQ _ ⟨{p.s with heap:=p.s.heap.push {cls:= .type "dict",dict:=none,data:= .dict #[]}},p.addρ (p.s.heap.objs.size,p.s.heap.objs.size),p.st.add (.dict [])⟩
  (dJ.add (W:=X.W) (o:= .dict []) R (λ b o h=>ah _ h) (bA .. ▸bT _) rfl rfl rfl (aq _) (aq _) λ c l e=>
   ⟨[],rfl,e▸Heap.DictOf.new _,.nil⟩) rfl kX) (bo _)
end
end
section
variable{k:Nat}{s':Shared}{a:Addr}{y:Str}{pos:Pos}
abbrev Loc:=List (Str×D)
noncomputable def Nk(k:Option NameKind):Prop:=k=some .local∨k=some .cell∨k=some .free
section
variable{prog:Program}{w:World}{h₁:Heap}{P W:Addr→Prop}{p:Pt}
theorem eK(hP:P a)(hs:Heap.SameBut a p.s.heap s'.heap):(p.cfg P).Le (Pt.cfg P ⟨s',p.ρ,p.st⟩):=
 ⟨λ b o hb hu=>⟨(hs.2 b λ e=>hu (.inr (e▸hP))).trans hb,hu⟩,λ _ _=>rfl,aq _⟩
theorem Mv.private(R:dJ prog w h₁ P p)(hP:P a)(hW:W a)(hs:Heap.SameBut a p.s.heap s'.heap)(hg:s'.gens=p.s.gens)(hd:s'.drawn=p.s.drawn)(hos:s'.os=p.s.os):Mv prog w h₁ P W p ⟨s',p.ρ,p.st⟩:=by
 have k {b o} (hb:fT p.ρ p.st.σ b) (h:p.s.heap.get? b=some o):s'.heap.get? b=some o:=(hs.2 b λ e=>R.footNot hb (e▸hP)).trans h
 exact⟨⟨λ b o h=>(hs.2 b λ e=>aN.mpr (R.priv a hP).2 (e▸az h)).trans (R.keep b o h),hs.1.symm▸R.size,R.top,R.lt',λ i o hi=>(R.obj i o hi).mono (eK hP hs) (λ o'=>k ⟨i,o,hi,.inl rfl⟩) λ o'=>k ⟨i,o,hi,.inr rfl⟩,
  R.new,R.own,R.sep,λ b hb=>hs.1.symm▸R.priv b hb⟩,hg,hd,hos,aM hs.1.symm,λ b o hb hf hw=>.inl ((hs.2 b λ e=>hw (e▸hW)).trans hb),λ _ _=>rfl,aq _,λ i o hi=>.inl ⟨R.lt' i o hi,o,hi⟩⟩
end
inductive Qe(X:Cx)(p:Pt)(env:Env)(loc:Loc):Prop
 |mk (m:SV) (hn:p.s.heap.Ns env.locals m) (hm:∀x d,bD loc x=some d→env.kindOf x=some .local→HV X.prog X.w (p.cfg X.P) (m x) d)
inductive LO(X:Cx)(p:Pt)(env:Env)(loc:Loc)(x:Str):Prop
 |mk (c:Addr) (v:Option Value) (hc:env.cells.lookup x=some c) (hv:p.s.heap.IsCell c v) (h:∀d,bD loc x=some d→HV X.prog X.w (p.cfg X.P) v d)
structure ax(X:Cx)(p:Pt)(env:Env)(loc:Loc):Prop where
 kind:env.scope.kind= .function
 glob:env.globals=mainGlobals
 blt:env.builtins=builtinsNs
 ns:Qe X p env loc
 cell:∀x,env.kindOf x=some .cell∨env.kindOf x=some .free→LO X p env loc x
 vars:∀x d,bD loc x=some d→Nk (env.kindOf x)
 pL:X.P env.locals
 pC:∀n c,(n,c)∈env.cells→X.P c
 apart:env.cells.Pairwise λ x y=>x.2≠y.2
 apL:∀n c,(n,c)∈env.cells→c≠env.locals
noncomputable def Cx.e(X:Cx):Cx:={X with W:=λ _=>False}
theorem Cx.e_ok(X:Cx):X.e.ok:=λ _ h=>h.elim
section
variable{X:Cx}{p q:Pt}{env:Env}{loc:Loc}{x:Str}{d:D}
theorem fy{c:Addr}(h:env.cells.lookup x=some c):(x,c)∈env.cells:=mem_of_lookup h
theorem ax.mv{X':Cx}(F:ax X p env loc)(hd:∀v d,X.den p v d→b8 X'.prog X'.w (q.cfg X'.P) v d)(hn:∀m,p.s.heap.Ns env.locals m→q.s.heap.Ns env.locals m)(hc:∀n c v,(n,c)∈env.cells→p.s.heap.IsCell c v→q.s.heap.IsCell c v)(pL:X'.P env.locals)(pC:∀n c,(n,c)∈env.cells→X'.P c):ax X' q env loc where
 kind:=F.kind
 glob:=F.glob
 blt:=F.blt
 ns:=by
  obtain⟨m,h,hm⟩:=F.ns
  exact⟨m,hn m h,λ x d hx hk=>(hm x d hx hk).imp (λ v=>hd v d) rfl⟩
 cell:=λ x hx=>by
  obtain⟨c,v,e,h,hv⟩:=F.cell x hx
  exact⟨c,v,e,hc _ _ _ (fy e) h,λ d hx=>(hv d hx).imp (λ v=>hd v d) rfl⟩
 vars:=F.vars
 pL:=pL
 pC:=pC
 apart:=F.apart
 apL:=F.apL
theorem ax.keep(F:ax X p env loc){W:Addr→Prop}(m:Mv X.prog X.w X.h₁ X.P W p q)(R:X.rep p)(hW:∀a,W a→X.P a)(h1:¬W env.locals)(h2:∀n c,(n,c)∈env.cells→¬W c):ax X q env loc:=
 F.mv (λ _ _ h=>h.mono (m.le hW)) (λ _ ⟨_,es,ep,ho,r⟩=>(m.up ho (λ h=>R.footNot h F.pL) h1).elim λ _ ho=>⟨_,es,ep,ho,r⟩)
  (λ n c _ hc ⟨_,ho,r⟩=>(m.up ho (λ h=>R.footNot h (F.pC n c hc)) (h2 n c hc)).elim λ _ ho=>⟨_,ho,r⟩) F.pL F.pC
theorem ax.keepE(F:ax X p env loc)(m:X.e.mv p q)(R:X.rep p):ax X q env loc:=F.keep m R (λ _ h=>h.elim) (λ h=>h) λ _ _ _ h=>h
theorem nh{x:Str}(h:c7 x y=false):(x==y)=false:=beq_eq_false_iff_ne.mpr (of_decide_eq_false ((eV x y).symm.trans h))
theorem FW(F:ax X p env loc)(R:X.rep p)(hx:bD loc x=some d)(hd:c7 x "__debug__"=false)(hc:c7 x "__classdict__"=false):GA X.e X.den p (eval (.Name x pos) env) d p.st:=by
 have hd':=nh hd
 have hc':=nh hc
 intro Q E k
 refine wpAny_Name ?_ hd'
 rcases F.vars x d hx with h|h|h
 ·obtain⟨m,hn,hm⟩:=F.ns
  obtain⟨v,hv,hd⟩:=hm x d hx h
  exact wpAny_loadName_local F.kind h hn hv (k v p (Mv.refl R) rfl hd)
 ·obtain⟨c,v,hc,hcell,hv⟩:=F.cell x (.inl h)
  obtain⟨u,rfl,hd⟩:=hv d hx
  exact wpAny_loadName_cell F.kind h hc hcell (k u p (Mv.refl R) rfl hd)
 ·obtain⟨c,v,hc,hcell,hv⟩:=F.cell x (.inr h)
  obtain⟨u,rfl,hd⟩:=hv d hx
  exact wpAny_loadName_free F.kind h hc hcell (k u p (Mv.refl R) rfl hd) hc'
noncomputable def StatIn(prog:Program)(w:World)(h₁:Heap)(v:Value)(d:D):Prop:=∀c:dW,(∀a o,h₁.get? a=some o→c.h.get? a=some o∧¬c.U a)→b8 prog w c v d
inductive rR(prog:Program)(w:World)(h₁:Heap)(x:Str)(d:D):Prop
 |g (v:Value) (hv:StatIn prog w h₁ v d) (mg:SV) (h1:h₁.Ns mainGlobals mg) (h2:mg x=some v)
 |b (v:Value) (hv:StatIn prog w h₁ v d) (mg mb:SV) (h1:h₁.Ns mainGlobals mg) (h2:mg x=none) (h3:h₁.Ns builtinsNs mb) (h4:mb x=some v)
abbrev LJ(X:Cx)(x:Str)(d:D):Prop:=rR X.prog X.w X.h₁ x d
theorem nD(R:X.rep p):∀a o,X.h₁.get? a=some o→(p.cfg X.P).h.get? a=some o∧¬(p.cfg X.P).U a:=λ a o h=>⟨R.keep a o h,λ u=>absurd (az h) (aN.mpr (u.elim
 (λ ⟨i,_,hi,e⟩=>e.elim (λ e=>e▸bJ (R.new i _ hi).1) λ e=>e▸bJ (R.new i _ hi).2) λ hP=>(R.priv a hP).2))⟩
theorem GJ(hkind:env.scope.kind= .function)(hg:env.globals=mainGlobals)(hb:env.builtins=builtinsNs)(R:X.rep p)(hx:env.kindOf x=some .globalImplicit)(hd:c7 x "__debug__"=false)(G:LJ X x d):GA X.e X.den p (eval (.Name x pos) env) d p.st:=by
 intro Q E k
 refine Name_function_global hkind hx ?_ (nh hd)
 obtain⟨v,hv,mg,h1,h2⟩|⟨v,hv,mg,mb,h1,h2,h3,h4⟩:=G
 ·exact loadGlobal_global (hg▸h1.keeps R.keep) h2 (k v p (Mv.refl R) rfl (hv _ (nD R)))
 ·exact loadGlobal_builtin (hg▸h1.keeps R.keep) h2 (hb▸h3.keeps R.keep) h4 (k v p (Mv.refl R) rfl (hv _ (nD R)))
theorem pD(R:X.rep p):GA X.e X.den p (eval (.Constant .none k pos) env) .none p.st:=λ _ _ kQ=>ak (kQ _ p (Mv.refl R) rfl .none)
theorem pE{b:Bool}(R:X.rep p):GA X.e X.den p (eval (.Constant (.bool b) k pos) env) (.bool b) p.st:=λ _ _ kQ=>ak (kQ _ p (Mv.refl R) rfl (.bool b))
theorem rD{i:Int}(R:X.rep p):GA X.e X.den p (eval (.Constant (.int i) k pos) env) (.int i) p.st:=λ Q E kQ=>
 wpAny_Constant_int (kQ _ ⟨_,p.ρ,p.st⟩ (Mv.tick R) rfl (.int i _))
theorem rB(R:X.rep p):GA X.e X.den p (eval (.Constant (.str y) k pos) env) (.str y) p.st:=λ Q E kQ=>
 Constant_str (kQ _ ⟨_,p.ρ,p.st⟩ (Mv.tick R) rfl (.str y _))
theorem fq{e:D}{C:Prop}(h:bD (iB loc x d) y=some e)(h1:y=x→e=d→C)(h2:y≠x→bD loc y=some e→C):C:=by
 rw[jk]at h
 by_cases n:y=x
 ·exact h1 n (an ((aZ n).symm.trans h)).symm
 ·exact h2 n ((aI n).symm.trans h)
theorem iI{v:Value}(F:ax X p env loc)(R:X.rep p)(ok:X.ok)(hk:(env.kindOf x=some .local∧X.W env.locals)∨(env.kindOf x=some .cell∧∀c,(x,c)∈env.cells→X.W c))(hv:X.den p v d):
  GA X (λ q _ _=>ax X q env (iB loc x d)) p (storeName env x v) () p.st:=by
 intro Q E kQ
 rcases hk with⟨hk,hW⟩|⟨hk,hW⟩
 ·obtain⟨m,hn,hm⟩:=F.ns
  refine wpAny_storeName_local hk hn (λ h' hn' hs=>?_) (by rw[F.kind];rfl)
  have D' u e (h:X.den p u e):=h.mono (eK (s':={p.s with heap:=h',toks:=p.s.toks+1}) F.pL hs)
  refine kQ () ⟨_,p.ρ,p.st⟩ (Mv.private R F.pL hW hs rfl rfl rfl) rfl ⟨F.kind,F.glob,F.blt,⟨_,hn',λ y e hy hky=>?_⟩,λ y hy=>?_,λ y e hy=>fq hy (λ e1 _=>e1▸.inl hk) λ _=>F.vars y e,F.pL,F.pC,F.apart,F.apL⟩
  ·exact fq hy (λ e1 e2=>⟨v,aZ e1,e2▸D' _ _ hv⟩) λ ne h=>(hm y e h hky).imp (D' · e) (aI ne)
  ·obtain⟨c,u,hc,hcell,hu⟩:=F.cell y hy
   exact⟨c,u,hc,hcell.sameBut hs (F.apL _ _ (fy hc)),λ e he=>fq he (λ e1=>by subst e1;rw[hk]at hy;exact absurd hy nofun) λ _ h=>(hu e h).imp (D' · e) rfl⟩
 ·obtain⟨c,u,hc,hcell,hu⟩:=F.cell x (.inl hk)
  refine wpAny_storeName_cell F.kind hk hc hcell λ h' hv' hs=>?_
  have hPc:=F.pC _ _ (fy hc)
  have D' u e (h:X.den p u e):=h.mono (eK (s':={p.s with heap:=h'}) hPc hs)
  refine kQ () ⟨_,p.ρ,p.st⟩ (Mv.private R hPc (hW _ (fy hc)) hs rfl rfl rfl) rfl ⟨F.kind,F.glob,F.blt,?_,λ y hy=>?_,λ y e hy=>fq hy (λ e1 _=>e1▸.inr (.inl hk)) λ _=>F.vars y e,F.pL,F.pC,F.apart,F.apL⟩
  ·obtain⟨m,hn,hm⟩:=F.ns
   exact⟨m,hn.sameBut hs (Ne.symm (F.apL _ _ (fy hc))),λ y e hy hky=>fq hy (λ e1=>by subst e1;rw[hk]at hky;exact absurd hky nofun) λ _ h=>(hm y e h hky).imp (D' · e) rfl⟩
  ·by_cases e1:y=x
   ·subst e1
    exact⟨c,_,hc,hv',λ e he=>fq he (λ _ e2=>⟨v,rfl,e2▸D' _ _ hv⟩) λ n=>absurd rfl n⟩
   ·obtain⟨c',u',hc',hcell',hu'⟩:=F.cell y hy
    exact⟨c',u',hc',hcell'.sameBut hs λ q=>e1 (name_of_addr F.apart (fy hc') (q▸fy hc)),λ e he=>fq he (λ e2=>absurd e2 e1) λ _ h=>(hu' e h).imp (D' · e) rfl⟩
end
end
section
variable{i:Nat}{p:Pt}{o₀:aY}{s':Shared}
noncomputable def St.put(st:St)(i:Nat)(o:aY):St:=⟨AL st.σ i o,st.next⟩
theorem wJ{o:aY}(h:aW p.st.σ i=some o₀){F:Nat→aY→Prop}(new:F i o)(old:∀j o',i≠j→aW p.st.σ j=some o'→F j o')(j:Nat)(o':aY)(hj:aW (p.st.put i o).σ j=some o'):F j o':=by
 rw[show aW (p.st.put i o).σ j=_ from kT h o j]at hj
 by_cases e:i=j
 ·exact e▸an ((aZ e).symm.trans hj)▸new
 ·exact old j o' e ((aI e).symm.trans hj)
theorem hO{o:aY}(h:aW p.st.σ i=some o₀){F:Nat→Prop}(old:∀j o',aW p.st.σ j=some o'→F j)(j:Nat)(o':aY)(hj:aW (p.st.put i o).σ j=some o'):F j:=wJ (F:=λ j _=>F j) h (old _ _ h) (λ j o' _=>old j o') j o' hj
theorem CV{o:aY}(h:aW p.st.σ i=some o₀)(a:Addr)(f:fT p.ρ (p.st.put i o).σ a):fT p.ρ p.st.σ a:=by
 obtain⟨j,o',hj,he⟩:=f
 exact hO h (F:=λ j=>(a=(p.ρ j).1∨a=(p.ρ j).2)→fT p.ρ p.st.σ a) (λ j o hj he=>⟨j,o,hj,he⟩) j o' hj he
section
variable{prog:Program}{w:World}{h₁:Heap}{P W:Addr→Prop}{p:Pt}
theorem dJ.updO{own:List Addr}{o:aY}(R:dJ prog w h₁ P p)(h:aW p.st.σ i=some o₀)(hP:∀b∈own,P b)(hW:∀b∈own,W b)(hs:∀a b,a∉own→p.s.heap.get? a=some b→a≠(p.ρ i).1→a≠(p.ρ i).2→s'.heap.get? a=some b)(hsz:p.s.heap.objs.size≤s'.heap.objs.size)(hg:s'.gens=p.s.gens)(hd:s'.drawn=p.s.drawn)(hos:s'.os=p.s.os)(ho:∀c:dW,(p.cfg P).Le c→c.h=s'.heap→fO prog w c (p.ρ i) o):Mv prog w h₁ P W p ⟨s',p.ρ,p.st.put i o⟩:=by
 have nf {a} (ha:¬fT p.ρ p.st.σ a):a≠(p.ρ i).1∧a≠(p.ρ i).2:=⟨λ e=>ha ⟨i,o₀,h,.inl e⟩,λ e=>ha ⟨i,o₀,h,.inr e⟩⟩
 have l:(p.cfg P).Le (Pt.cfg P ⟨s',p.ρ,p.st.put i o⟩):=⟨λ a b ha hu=>have n:=nf λ x=>hu (.inl x)
  ⟨hs a b (λ m=>hu (.inr (hP a m))) ha n.1 n.2,λ x=>hu (x.imp (CV h a) id)⟩,λ _ _=>rfl,aq _⟩
 have n:=R.new i o₀ h
 have nfo {b} (hb:fT p.ρ p.st.σ b):b∉own:=λ m=>R.footNot hb (hP b m)
 exact⟨⟨λ b o' hb=>hs b o' (λ m=>aN.mpr (R.priv b (hP b m)).2 (az hb)) (R.keep b o' hb) (λ e=>aN.mpr (bJ n.1) (e▸az hb)) (λ e=>aN.mpr (bJ n.2) (e▸az hb)),
  ao R.size hsz,R.top,hO h R.lt',wJ (F:=λ j o=>fO prog w _ (p.ρ j) o) h (ho _ l rfl) (λ j o' e hj=>(R.obj j o' hj).mono l (λ b hb=>hs _ b (nfo ⟨j,o',hj,.inl rfl⟩) hb (R.sep i j _ _ h hj e).1.symm (R.sep j i _ _ hj h (Ne.symm e)).2.1)
   λ b hb=>hs _ b (nfo ⟨j,o',hj,.inr rfl⟩) hb (R.sep i j _ _ h hj e).2.1.symm (R.sep i j _ _ h hj e).2.2.symm),hO h R.new,hO h R.own,
  λ j k o' o'' hj hk=>hO h (F:=λ j=>j≠k→(p.ρ j).1≠(p.ρ k).1∧(p.ρ j).1≠(p.ρ k).2∧(p.ρ j).2≠(p.ρ k).2) (λ j oj hj=>hO h (F:=λ k=>j≠k→(p.ρ j).1≠(p.ρ k).1∧(p.ρ j).1≠(p.ρ k).2∧(p.ρ j).2≠(p.ρ k).2) (λ k ok hk=>R.sep j k oj ok hj hk) k o'' hk) j o' hj,
  λ a ha=>⟨ao (R.priv a ha).1 hsz,(R.priv a ha).2⟩⟩,hg,hd,hos,hsz,λ a b ha hf hw=>.inl (hs a b (λ m=>hw (hW a m)) ha (nf hf).1 (nf hf).2),λ _ _=>rfl,aq _,hO h λ j o hj=>.inl ⟨R.lt' j o hj,o,hj⟩⟩
theorem dJ.upd{o:aY}(R:dJ prog w h₁ P p)(h:aW p.st.σ i=some o₀)(hs:∀a b,p.s.heap.get? a=some b→a≠(p.ρ i).1→a≠(p.ρ i).2→s'.heap.get? a=some b)(hsz:p.s.heap.objs.size≤s'.heap.objs.size)(hg:s'.gens=p.s.gens)(hd:s'.drawn=p.s.drawn)(hos:s'.os=p.s.os)(ho:∀c:dW,(p.cfg P).Le c→c.h=s'.heap→fO prog w c (p.ρ i) o):Mv prog w h₁ P W p ⟨s',p.ρ,p.st.put i o⟩:=
 dJ.updO (own:=[]) R h (λ _ h=>by cases h) (λ _ h=>by cases h) (λ a b _=>hs a b) hsz hg hd hos ho
end
end
section
variable{x:PyData}
noncomputable def cq{α β:Type}(f:α→Option β):List α→Option (List β)
 |[]=>some []
 |x::r=>(f x).bind λ y=>(cq f r).map (y::·)
section
variable{α β:Type}{f:α→Option β}
theorem gK{P:List α→List β→Prop}(h0:P [] [])(h1:∀x r,b6 (λ y=>∀s,P r s→P (x::r) (y::s)) (f x)):∀l,b6 (P l) (cq f l):=λ l=>by
 induction l with
 |nil=>exact h0
 |cons x r ih=>
  exact .bind ((h1 x r).mono λ y k=>.map (ih.mono λ s=>k s))
theorem lI{x:α}{r:List α}{ys:List β}(h:cq f (x::r)=some ys):∃y s,f x=some y∧cq f r=some s∧ys=y::s:=by
 obtain⟨y,hy,h⟩:=nk.mp h
 obtain⟨s,hs,e⟩:=bL.mp h
 exact⟨y,s,hy,hs,e.symm⟩
end
noncomputable def Fs:List Nat→Bool
 |[]=>true
 |a::r=>Nat.blt a 1114112&&Fs r
noncomputable def okS(x:Str):Bool:=Fs x.cps.toList
theorem Fp(l:List Nat):Fs l=l.all (·<1114112):=by
 induction l with
 |nil=>rfl
 |cons a r ih=>
  have e:decide (a<1114112)=Nat.blt a 1114112:=Bool.eq_iff_iff.mpr (decide_eq_true_iff.trans (bp▸Iff.rfl))
  show(Nat.blt a 1114112&&Fs r)=(decide (a<1114112)&&_)
  rw[e,ih]
theorem Jy(x:Str):okS x=PyData.strOk x:=(Fp _).trans (Array.all_toList ..)
noncomputable def Mg(f:List D→Option (List PyData)):D→Option PyData
 | .none=>some .none
 | .int i=>some (.int i)
 | .str x=>cond (okS x) (some (.str x)) none
 | .tup ds=>(f ds).map .tuple
 | .lst ds=>(f ds).map .list
 |_=>none
noncomputable def o6:Nat→D→Option PyData
 |0=>Mg λ _=>none
 |n+1=>Mg (cq (o6 n))
noncomputable def d5:Int→Int→Bool
 | .ofNat a,.ofNat b=>Nat.beq a b
 | .negSucc a,.negSucc b=>Nat.beq a b
 |_,_=>false
theorem dm(a b:Int):d5 a b=decide (a=b):=by
 induction a using Int.casesOn with
 |ofNat a=>induction b using Int.casesOn with
  |ofNat b=>exact(k4 a b).trans (decide_eq_decide.mpr (Int.ofNat.injEq .. ▸Iff.rfl))
  |negSucc b=>exact(bB nofun).symm
 |negSucc a=>induction b using Int.casesOn with
  |ofNat b=>exact(bB nofun).symm
  |negSucc b=>exact(k4 a b).trans (decide_eq_decide.mpr (Int.negSucc.injEq .. ▸Iff.rfl))
noncomputable def zr(f:D→D→Bool):List D→List D→Bool
 |[],[]=>true
 |x::xs,y::ys=>f x y&&zr f xs ys
 |_,_=>false
noncomputable def PR(g:List D→List D→Bool):D→D→Bool
 | .none,.none=>true
 | .int i,.int j=>d5 i j
 | .str x,.str y=>c7 x y
 | .tup xs,.tup ys=>g xs ys
 | .lst xs,.lst ys=>g xs ys
 |_,_=>false
noncomputable def ua:Nat→D→D→Bool
 |0=>PR λ _ _=>false
 |n+1=>PR (zr (ua n))
inductive Rd(h:Heap)(n:Nat)(v:Value)(x:PyData):Prop
 |mk {as:List Addr} (r:Reads h v x as) (l:x.canLay0=true) (d:x.depth≤n)
inductive L3(h:Heap)(n:Nat)(v:List Value)(x:List PyData):Prop
 |mk {as:List Addr} (r:ReadsAll h v x as) (l:PyData.canLayAll0 x=true) (d:PyData.depthAll x≤n)
section
variable{prog:Program}{w:World}{c:dW}
theorem uJ{f:D→Option PyData}{n:Nat}(hf:∀v d,b8 prog w c v d→b6 (Rd c.h n v) (f d)){vs:List Value}{ds:List D}(h:bH prog w c vs ds):b6 (L3 c.h n vs) (cq f ds):=
 gK (P:=λ ds xs=>∀vs,bH prog w c vs ds→L3 c.h n vs xs) (λ vs h=>by cases h;exact⟨.nil,rfl,bo _⟩) (λ d ds=>.all λ x hx xs ih vs h=>by
  cases h with
  |cons h1 h2=>exact Rd.casesOn (aT (hf _ _ h1) hx) λ r l d=>L3.casesOn (ih _ h2) λ r' l' d'=>⟨.cons r r',(Bool.and_eq_true _ _).mpr ⟨l,l'⟩,Nat.max_le.mpr ⟨d,d'⟩⟩) ds|>.mono λ _ k=>k _ h
theorem rdF{f:List D→Option (List PyData)}{n:Nat}(hf:∀vs ds,bH prog w c vs ds→b6 (L3 c.h n vs) (f ds)){v:Value}{d:D}(h:b8 prog w c v d):b6 (Rd c.h (n+1) v) (Mg f d):=by
 induction h using b8.casesOn with
 |none=>exact⟨.none,rfl,bo _⟩
 |int i t=>exact⟨.int i t,rfl,bo _⟩
 |str x t=>
  exact .cond λ e=>⟨.str x t,(Jy x).symm.trans e,bo _⟩
 |tup ho hc hd hu hi=>
  exact .map ((hf _ _ hi).mono λ _ k=>let⟨r,l,d⟩:=k;⟨.tuple ho hc hd r,l,bK d⟩)
 |lst ho hc hd hu hi=>
  exact .map ((hf _ _ hi).mono λ _ k=>let⟨r,l,d⟩:=k;⟨.list ho hc hd r,l,bK d⟩)
 |_=>exact ag
theorem MH(n:Nat):∀v d,b8 prog w c v d→b6 (Rd c.h (n+1) v) (o6 n d):=by
 induction n with
 |zero=>exact λ _ _=>rdF (f:=λ _=>none) λ _ _ _=>ag
 |succ n ih=>exact λ _ _=>rdF λ _ _=>uJ ih
end
theorem PQ{f:D→Option PyData}{g:D→D→Bool}(hf:∀a b,b6 (λ x=>b6 (λ y=>g a b=PyData.eqv x y) (f b)) (f a))(as:List D):∀bs,b6 (λ xs=>b6 (λ ys=>zr g as bs=PyData.eqvAll xs ys) (cq f bs)) (cq f as):=λ bs=>
 gK (P:=λ as xs=>∀bs,b6 (λ ys=>zr g as bs=PyData.eqvAll xs ys) (cq f bs))
  (λ bs=>gK (P:=λ bs ys=>zr g [] bs=PyData.eqvAll [] ys) rfl (λ _ _=>.all λ _ _ _ _=>rfl) bs)
  (λ a as=>.all λ x hx xs ih bs=>by
   cases bs with
   |nil=>exact rfl
   |cons b bs=>
    refine .bind ((aT (hf a b) hx).mono λ y h1=>.map ((ih bs).mono λ ys h2=>?_))
    show(g a b&&zr g as bs)=(PyData.eqv x y&&PyData.eqvAll xs ys)
    rw[h1,h2]) as|>.mono λ _ k=>k bs
theorem NG{f:List D→Option (List PyData)}{g:List D→List D→Bool}(hf:∀a b,b6 (λ x=>b6 (λ y=>g a b=PyData.eqvAll x y) (f b)) (f a))(a b:D):b6 (λ x=>b6 (λ y=>PR g a b=PyData.eqv x y) (Mg f b)) (Mg f a):=by
 induction a using D.casesOn with
 |none=>induction b using D.casesOn with
  |str s=>exact .cond λ _=>rfl
  |tup ds|lst ds=>exact .map (.any λ _=>rfl)
  |_=>first|exact ag|exact rfl
 |int i=>induction b using D.casesOn with
  |int j=>exact dm i j
  |str s=>exact .cond λ _=>rfl
  |tup ds|lst ds=>exact .map (.any λ _=>rfl)
  |_=>first|exact ag|exact rfl
 |str x=>refine .cond λ _=>?_;induction b using D.casesOn with
  |str y=>exact .cond λ _=>eV x y
  |tup ds|lst ds=>exact .map (.any λ _=>rfl)
  |_=>first|exact ag|exact rfl
 |tup x=>induction b using D.casesOn with
  |str y=>exact .map (.any λ _=>.cond λ _=>rfl)
  |tup y=>exact .map ((hf x y).mono λ _ k=>by apply b6.map;exact k)
  |lst y=>exact .map (.any λ _=>.map (.any λ _=>rfl))
  |_=>exact .map (.any λ _=>by first|exact ag|exact rfl)
 |lst x=>induction b using D.casesOn with
  |str y=>exact .map (.any λ _=>.cond λ _=>rfl)
  |lst y=>exact .map ((hf x y).mono λ _ k=>by apply b6.map;exact k)
  |tup y=>exact .map (.any λ _=>.map (.any λ _=>rfl))
  |_=>exact .map (.any λ _=>by first|exact ag|exact rfl)
 |_=>exact ag
theorem PP(n:Nat):∀a b,b6 (λ x=>b6 (λ y=>ua n a b=PyData.eqv x y) (o6 n b)) (o6 n a):=by
 induction n with
 |zero=>exact NG λ _ _=>ag
 |succ n ih=>exact NG (PQ ih)
theorem xm(n:Nat)(a b:D)(x y:PyData)(h:o6 n a=some x)(k:o6 n b=some y):ua n a b=PyData.eqv x y:=aT (P:=λ y=>_=PyData.eqv x y) (aT (P:=λ x=>b6 (λ y=>_=PyData.eqv x y) _) (PP n a b) h) k
noncomputable def gw(a b:D):Option Bool:=(o6 8 a).bind λ _=>(o6 8 b).map λ _=>ua 8 a b
noncomputable def i9(d:D):List D→Bool
 |[]=>false
 |y::r=>ua 8 y d||i9 d r
noncomputable def mu(d:D)(ds:List D):Option Bool:=(o6 8 d).bind λ _=>(cq (o6 8) ds).map λ _=>i9 d ds
theorem DV{d:D}(hd:o6 8 d=some x)(ds:List D):b6 (λ xs=>i9 d ds=xs.any λ y=>PyData.eqv y x) (cq (o6 8) ds):=
 gK (P:=λ ds xs=>i9 d ds=xs.any λ y=>PyData.eqv y x) rfl (λ e ds=>.all λ y hy ys ih=>by
  show(ua 8 e d||i9 d ds)=(PyData.eqv y x||ys.any λ y=>PyData.eqv y x)
  rw[xm 8 e d y x hy hd,ih]) ds
section
variable{X:Cx}{p:Pt}{v u:Value}{a b:D}{k:Bool}
noncomputable def dO(X:Cx):Prop:=X.A.units+80<cLine
theorem dO.le(hr:dO X){n:Nat}(h:n≤80):X.A.units+n<cLine:=aA (aO h _) hr
theorem mS(l:x.canLay0=true)(d:x.depth≤9):SeqAt.shaped x=true:=(Bool.and_eq_true _ _).mpr ⟨l,bI (ad d (by decide))⟩
theorem C7(R:X.rep p)(hr:dO X)(ha:X.den p v a)(hb:X.den p u b)(h:gw a b=some k):∀Q:Value→Shared→Prop,(Q (.bool k) p.s→∀E,wpAny X.m X.A (compareOp .Eq v u) Q E p.s)∧(Q (.bool (!k)) p.s→∀E,wpAny X.m X.A (compareOp .NotEq v u) Q E p.s):=by
 refine aT (P:=λ k=>∀Q:Value→Shared→Prop,(Q (.bool k) p.s→∀E,wpAny X.m X.A (compareOp .Eq v u) Q E p.s)∧(Q (.bool (!k)) p.s→∀E,wpAny X.m X.A (compareOp .NotEq v u) Q E p.s)) (.bind (.all λ x hx=>.map (.all λ y hy Q=>?_))) h
 rw[xm 8 a b x y hx hy]
 exact Rd.casesOn (aT (MH 8 v a ha) hx) λ ra la da=>Rd.casesOn (aT (MH 8 u b hb) hy) λ rb lb db=>
  ⟨λ q E=>eq_dataH ra rb (mS la da) (mS lb db) (hr.le (by decide)) q,λ q E=>ne_dataH ra rb (mS la da) (mS lb db) (hr.le (by decide)) q⟩
theorem NH(R:X.rep p)(hr:dO X)(ha:X.den p v a)(hb:X.den p u b)(h:gw a b=some k):GA X X.den p (compareOp .Eq v u) (.bool k) p.st:=λ Q E kQ=>
 (C7 R hr ha hb h Q).1 (kQ _ p (Mv.refl R) rfl (.bool _)) E
theorem Ig(R:X.rep p)(hr:dO X)(ha:X.den p v a)(hb:X.den p u b)(h:gw a b=some k):GA X X.den p (compareOp .NotEq v u) (.bool (!k)) p.st:=λ Q E kQ=>
 (C7 R hr ha hb h Q).2 (kQ _ p (Mv.refl R) rfl (.bool _)) E
inductive ed(X:Cx)(p:Pt)(v:Value)(ds:List D):Prop
 |list {l:Addr} {o:Obj} {xs:Array Value} {n:Nat} (e:v= .ref l) (ho:p.s.heap.get? l=some o) (hc:o.cls= .type "list") (hd:o.data= .seq xs n) (hi:X.denL p xs.toList ds)
 |tuple {l:Addr} {o:Obj} {xs:Array Value} {n:Nat} (e:v= .ref l) (ho:p.s.heap.get? l=some o) (hc:o.cls= .type "tuple") (hd:o.data= .seq xs n) (hi:X.denL p xs.toList ds)
noncomputable def iP:aY→Option (List D)
 | .list ds=>some ds
 |_=>none
noncomputable def dE(st:St):D→Option (List D)
 | .tup ds=>some ds
 | .lst ds=>some ds
 | .ob i=>(aW st.σ i).bind iP
 |_=>none
theorem nE(R:X.rep p)(ha:X.den p v a){ds:List D}(h:dE p.st a=some ds):ed X p v ds:=by
 refine aT (P:=ed X p v) ?_ h
 clear h
 induction ha using b8.casesOn with
 |tup ho hc hd hu hi=>exact .tuple rfl ho hc hd hi
 |lst ho hc hd hu hi=>exact .list rfl ho hc hd hi
 |ob i hi=>
  refine .bind (.all λ o he=>?_)
  have:=R.obj i _ he
  induction o using aY.casesOn with
  |list ds=>obtain⟨_,_,e,ho,hi⟩:=this;exact .list rfl ho rfl rfl hi
  |_=>exact ag
 |_=>exact ag
theorem Cw(R:X.rep p)(hr:dO X)(ha:X.den p v a){ds:List D}(hs:ed X p u ds)(h:mu a ds=some k):∀Q:Value→Shared→Prop,(Q (.bool k) p.s→∀E,wpAny X.m X.A (compareOp .In v u) Q E p.s)∧(Q (.bool (!k)) p.s→∀E,wpAny X.m X.A (compareOp .NotIn v u) Q E p.s):=by
 refine aT (P:=λ k=>∀Q:Value→Shared→Prop,(Q (.bool k) p.s→∀E,wpAny X.m X.A (compareOp .In v u) Q E p.s)∧(Q (.bool (!k)) p.s→∀E,wpAny X.m X.A (compareOp .NotIn v u) Q E p.s)) (.bind (.all λ x hx=>.map (.all λ xs hxs Q=>?_))) h
 rw[aT (P:=λ xs=>_=xs.any λ y=>PyData.eqv y x) (DV hx ds) hxs]
 induction aT (MH 8 v a ha) hx using Rd.casesOn with|mk ra la da
 have hu:∀n,X.A.units+1+min n x.depth<cLine:=λ n=>aA (aO (ad (Nat.min_le_right _ _) da) _) (cI .. ▸hr.le (by decide))
 induction hs using ed.casesOn with
 |list e ho hc hd hi=>
  subst e
  exact L3.casesOn (aT (uJ (MH 8) hi) hxs) λ rb lb db=>⟨λ q E=>SeqAt.in_list_reads (.list ho hc hd rb) ra lb la (hu _) q,λ q E=>SeqAt.notIn_list_reads (.list ho hc hd rb) ra lb la (hu _) q⟩
 |tuple e ho hc hd hi=>
  subst e
  exact L3.casesOn (aT (uJ (MH 8) hi) hxs) λ rb lb db=>⟨λ q E=>SeqAt.in_tuple_reads (.tuple ho hc hd rb) ra lb la (hu _) q,λ q E=>SeqAt.notIn_tuple_reads (.tuple ho hc hd rb) ra lb la (hu _) q⟩
theorem Nl(R:X.rep p)(hr:dO X)(ha:X.den p v a){ds:List D}(hs:ed X p u ds)(h:mu a ds=some k):GA X X.den p (compareOp .In v u) (.bool k) p.st:=λ Q E kQ=>
 (Cw R hr ha hs h Q).1 (kQ _ p (Mv.refl R) rfl (.bool _)) E
theorem By(R:X.rep p)(hr:dO X)(ha:X.den p v a){ds:List D}(hs:ed X p u ds)(h:mu a ds=some k):GA X X.den p (compareOp .NotIn v u) (.bool (!k)) p.st:=λ Q E kQ=>
 (Cw R hr ha hs h Q).2 (kQ _ p (Mv.refl R) rfl (.bool _)) E
end
end
section
variable{α:Type}{kvs:List (cv×Value)}{es:List (D×D)}
noncomputable def dN:D→Option cv
 | .int i=>some (.inl i)
 | .str x=>some (.inr x)
 |_=>none
noncomputable def di:D→cv→Bool
 | .int j,.inl i=>d5 j i
 | .str y,.inr x=>c7 y x
 |_,_=>false
theorem gM(a k:cv):di (dp a) k=decide (a=k):=by
 induction a using Sum.casesOn with
 |inl a=>induction k using Sum.casesOn with
  |inl k=>exact(dm a k).trans (decide_eq_decide.mpr (Sum.inl.injEq a k▸Iff.rfl))
  |inr k=>exact(bB nofun).symm
 |inr a=>induction k using Sum.casesOn with
  |inl k=>exact(bB nofun).symm
  |inr k=>exact(eV a k).trans (decide_eq_decide.mpr (Sum.inr.injEq a k▸Iff.rfl))
noncomputable def aR:List (D×D)→cv→Option D
 |[],_=>none
 |p::r,k=>cond (di p.1 k) (some p.2) (aR r k)
noncomputable def d4:List (D×D)→cv→D→List (D×D)
 |[],k,d=>[(dp k,d)]
 |p::r,k,d=>cond (di p.1 k) ((p.1,d)::r) (p::d4 r k d)
noncomputable def gu:Option D→D→D
 |some d,_=>d
 |none,e=>e
noncomputable def iy:Option α→Bool
 |some _=>true
 |none=>false
theorem sb(a:cv)(u:Value)(kvs:List (cv×Value))(k:cv)(v:Value)(hn:(((a,u)::kvs).map (·.1)).Nodup):stored ((a,u)::kvs) k v=cond (decide (a=k)) ((a,v)::kvs) ((a,u)::stored kvs k v):=by
 unfold stored
 by_cases h:a=k
 ·subst h
  simp only[List.any_cons,decide_true,Bool.true_or,if_true,List.map_cons,map_store_of_not_mem kvs a v (bF.mp hn).1,cond]
 ·simp only[List.any_cons,bB h,Bool.false_or,aI h,List.map_cons,List.cons_append,cond]
  exact(apply_ite ((a,u)::·) ..).symm
theorem qA(a:cv)(u:Value)(kvs:List (cv×Value))(k:cv):valueAt ((a,u)::kvs) k=cond (decide (a=k)) (some u) (valueAt kvs k):=by
 unfold valueAt
 rw[List.find?_cons]
 induction decide (a=k)using Bool.casesOn<;>rfl
theorem tZ.isSome{β:Type}{R:α→β→Prop}{x:Option α}{y:Option β}(h:tZ R x y):x.isSome=iy y:=by
 induction x using Option.casesOn<;>induction y using Option.casesOn<;>first|rfl|exact h.elim
section
variable{prog:Program}{w:World}{c:dW}
theorem dg.stored(h:dg prog w c kvs es)(k:cv){v:Value}{d:D}(hv:b8 prog w c v d):(kvs.map (·.1)).Nodup→dg prog w c (stored kvs k v) (d4 es k d):=by
 induction es generalizing kvs with
 |nil=>cases h;exact λ _=>.cons hv .nil
 |cons e es ih=>cases h with
  | @cons a u du kvs es hu r=>
   intro hn
   have:=ih r (bF.mp hn).2
   revert this
   show _→dg prog w c (PySem.stored ((a,u)::kvs) k v) (cond (di (dp a) k) ((dp a,d)::es) ((dp a,du)::d4 es k d))
   rw[sb a u kvs k v hn,gM]
   induction decide (a=k)using Bool.casesOn with
   |false=>exact .cons hu
   |true=>exact λ _=>.cons hv r
theorem dg.look(h:dg prog w c kvs es)(k:cv):tZ (b8 prog w c) (valueAt kvs k) (aR es k):=by
 induction es generalizing kvs with
 |nil=>cases h;exact ag
 |cons e es ih=>cases h with
  | @cons a u du kvs es hu r=>
   have:=ih r
   revert this
   show _→tZ _ (valueAt ((a,u)::kvs) k) (cond (di (dp a) k) (Option.some du) (aR es k))
   rw[qA,gM]
   induction decide (a=k)using Bool.casesOn with
   |false=>exact id
   |true=>exact λ _=>hu
theorem gS{v:Value}{d:D}{k:cv}(h:b8 prog w c v d)(hk:dN d=some k):(bV prog w).is k v=true:=by
 refine aT (P:=λ k=>(bV prog w).is k v=true) ?_ hk
 clear hk
 induction h using b8.casesOn with
 |int i t=>exact bI rfl
 |str x t=>exact bI rfl
 |_=>exact ag
end
section
variable{X:Cx}{p:Pt}{v u:Value}{a b:D}{k:Bool}
inductive jv(X:Cx)(p:Pt)(v:Value)(es:List (D×D)):Prop
 |mk (l:Addr) (kvs:List (cv×Value)) (e:v= .ref l) (hm:p.s.heap.DictOf (bV X.prog X.w) l kvs) (hi:dg X.prog X.w (p.cfg X.P) kvs es) (lo:(l==sysModules)=false)
noncomputable def oB:aY→Option (List (D×D))
 | .dict es=>some es
 |_=>none
noncomputable def dictOf(st:St):D→Option (List (D×D))
 | .dct es=>some es
 | .ob i=>(aW st.σ i).bind oB
 |_=>none
theorem J9(R:X.rep p)(hs:sysModules<X.h₁.objs.size){i:Nat}{o:aY}(h:aW p.st.σ i=some o):((p.ρ i).1==sysModules)=false:=
 beq_eq_false_iff_ne.mpr (bM (dH hs (R.new i o h).1))
theorem ng(R:X.rep p)(hs:sysModules<X.h₁.objs.size)(ha:X.den p v a){es:List (D×D)}(h:dictOf p.st a=some es):jv X p v es:=by
 refine aT (P:=jv X p v) ?_ h
 clear h
 induction ha using b8.casesOn with
 |dct hm hu hi lo=>exact⟨_,_,rfl,hm,hi,lo⟩
 |ob i hi=>
  refine .bind (.all λ o he=>?_)
  have:=R.obj i _ he
  induction o using aY.casesOn with
  |dict es=>obtain⟨_,e,hm,hi⟩:=this;exact⟨_,_,rfl,hm,hi,J9 R hs he⟩
  |_=>exact ag
 |_=>exact ag
theorem y4(R:X.rep p){k:cv}(ha:X.den p v a)(hk:dN a=some k){es:List (D×D)}(hd:jv X p u es):GA X X.den p (compareOp .In v u) (.bool (iy (aR es k))) p.st:=by
 obtain⟨l,kvs,rfl,hm,hi,lo⟩:=hd
 exact λ Q E kQ=>wpAny_in_of (knd:=bV X.prog X.w) (gS ha hk) lo hm.mapOf ((hi.look k).isSome▸kQ _ ⟨_,p.ρ,p.st⟩ (Mv.tick R) rfl (.bool _))
theorem qM(R:X.rep p){k:cv}(ha:X.den p v a)(hk:dN a=some k){es:List (D×D)}(hd:jv X p u es):GA X X.den p (compareOp .NotIn v u) (.bool (!iy (aR es k))) p.st:=by
 obtain⟨l,kvs,rfl,hm,hi,lo⟩:=hd
 exact λ Q E kQ=>wpAny_notIn_of (knd:=bV X.prog X.w) (gS ha hk) lo hm.mapOf ((hi.look k).isSome▸kQ _ ⟨_,p.ρ,p.st⟩ (Mv.tick R) rfl (.bool _))
theorem s8(R:X.rep p){k:cv}(ha:X.den p v a)(hk:dN a=some k){es:List (D×D)}(hd:jv X p u es){d:D}(hl:aR es k=some d):GA X X.den p (getItem u v) d p.st:=by
 obtain⟨l,kvs,rfl,hm,hi,lo⟩:=hd
 obtain⟨v',hv,hvd⟩:=(hi.look k).some hl
 exact λ Q E kQ=>wpAny_getItem_of (knd:=bV X.prog X.w) (gS ha hk) hm.mapOf hv (kQ _ ⟨_,p.ρ,p.st⟩ (Mv.tick R) rfl hvd)
theorem rV{prog:Program}{w:World}{h:Heap}{l:Addr}(hm:h.DictOf (bV prog w) l kvs):(kvs.map (·.1)).Nodup:=hm.elim λ _ h=>h.elim λ _ h=>h.elim λ _ h=>h.2.2.2.2.2
theorem uA(R:X.rep p){k:cv}{i:Nat}{x:Value}{d:D}(ha:X.den p v a)(hk:dN a=some k)(hu:X.den p u (.ob i)){es:List (D×D)}(ho:aW p.st.σ i=some (.dict es))(hx:X.den p x d)(hsz:es.length≤sizeLine):
  GA X (λ _ _ _=>True) p (setItem u v x) () (p.st.put i (.dict (d4 es k d))):=by
 cases hu
 obtain⟨kvs,e,hm,hi⟩:OQ .. :=R.obj i _ ho
 exact λ Q E kQ=>wpAny_setItem_pairs (knd:=bV X.prog X.w) (gS ha hk) hm (λ h' hm' hs=>
   kQ () ⟨{p.s with heap:=h',toks:=p.s.toks+1},p.ρ,p.st.put i (.dict (d4 es k d))⟩ (dJ.upd R ho (λ a b hb h1 h2=>(hs.2 a h1).trans hb) (aM hs.1.symm) rfl rfl rfl λ c l hc=>
    ⟨_,e,hc.symm▸hm',dg.stored (hi.mono l) k (hx.mono l) (rV hm)⟩) rfl trivial) (hi.length.symm▸hsz)
end
end
section
variable{α:Type}{n j:Nat}{prog:Program}{w:World}{c:dW}{xs:Array Value}{ds:List D}
noncomputable def dj{α:Type}:List α→Nat→Option α
 |[],_=>none
 |x::r,n=>match n with
  |0=>some x
  |n+1=>dj r n
theorem hZ(l:List α):∀n:Nat,dj l n=l[n]?:=by
 induction l with
 |nil=>exact λ _=>rfl
 |cons x r ih=>exact λ n=>by induction n using Nat.casesAuxOn with
  |zero=>rfl
  |succ n=>exact ih n
noncomputable def mF{α:Type}:List α→Nat→α→List α
 |[],_,_=>[]
 |x::r,n,y=>match n with
  |0=>y::r
  |n+1=>x::mF r n y
theorem EU(l:List α):∀(n:Nat) (y:α),mF l n y=l.set n y:=by
 induction l with
 |nil=>exact λ _ _=>rfl
 |cons x r ih=>exact λ n y=>by induction n using Nat.casesAuxOn with
  |zero=>rfl
  |succ n=>exact ae (x::·) (ih n y)
noncomputable def aw{α:Type}:List α→Nat
 |[]=>0
 |_::r=>aw r+1
theorem bf(l:List α):aw l=l.length:=by
 induction l with
 |nil=>rfl
 |cons x r ih=>exact ae (·+1) ih
noncomputable def jK:Int→Option Nat
 | .ofNat n=>some n
 | .negSucc _=>none
theorem gd{i:Int}(h:jK i=some n):i=(n:Int):=by
 induction i using Int.casesOn with
 |ofNat m=>exact ae Int.ofNat (an h)
 |negSucc m=>exact nsK h
theorem yz(h:n<2^62):(n:Int)<2^63:=by omega
theorem FS:(0:Int)≤n:=Int.natCast_nonneg n
theorem kn{m:Nat}(h:n<m):seqIndex? n m=some n:=by
 have e:¬((n:Int)<0):=Int.not_lt.mpr FS
 unfold seqIndex?
 simp only[e,if_false]
 simp[h]
theorem bH.size(h:bH prog w c xs.toList ds):xs.size=ds.length:=(Array.length_toList ..).symm.trans h.length
section
variable{prog:Program}{w:World}{A:Around}{E:VS}{s:Shared}
theorem ph{l:Addr}{items:Array Value}{k:Int}(hk:k=j){t:Tok}{v:Value}{Q:Unit→Shared→Prop}(hl:IsL s.heap l items n)(hfit:j<2^62)(hn:j<items.size)(hQ:Q () {s with heap:=s.heap.update l (Obj.mapSeq (·.setIfInBounds j v))}):
  wpAny (model prog w) A (setItem (.ref l) (.int k t) v) Q E s:=by
 have hl':=hl.isList
 unfold setItem
 try with_reducible refine aV ?_
 refine aa (wpAny_sequenceKey hl'.typeIs (by decide) ?_)
 refine aa (wpAny_callSpecial?_slot (name:=Str.ofString "__setitem__") hl'.typeIs slot_list_setitem
  (wpAny_call_entry slot_list_setitem hl'.typeIs entry_list_setitem ?_ (args_list_setitem _ _ _)))
 show wpAny _ _ (Builtin.List.listSubscript? (.int k t)>>=_) _ _ s
 refine aa (wpAny_listSubscript_int (fitsIndex_of (hk▸FS) (hk▸yz hfit)) ?_)
 clear hfit
 subst hk
 show wpAny _ _ ((seqItemAt l j>>=λ r=>pure (r.map (j,·)))>>=_) _ _ s
 refine aa (aa (wpAny_seqItemAt hl rfl (ak ?_)))
 rw[Array.getElem?_eq_getElem hn]
 show wpAny _ _ (setSeqItemAt l j v>>=_) _ _ s
 exact aa (wpAny_setSeqItemAt hl rfl (aa (ak (ak ⟨.none,rfl,ak hQ⟩))))
end
section
variable{X:Cx}{p:Pt}{v u:Value}{a b d:D}{k:Bool}{ds es:List D}
theorem n9(R:X.rep p)(hs:ed X p u ds){i:Int}{t:Tok}{n:Nat}(hn:jK i=some n)(hd:dj ds n=some d)(hsz:n<2^62):GA X X.den p (getItem u (.int i t)) d p.st:=by
 cases gd hn
 rw[hZ]at hd
 intro Q E kQ
 induction hs using ed.casesOn with
 | @list l o xs m e ho hc hd' hi=>
  obtain⟨x,hx,hxd⟩:=hi.get hd
  exact e▸wpAny_getItem_list ⟨o,ho,hc,m,hd'⟩ FS (yz hsz) (Array.getElem?_toList.symm.trans hx) (kQ x p (Mv.refl R) rfl hxd)
 | @tuple l o xs m e ho hc hd' hi=>
  obtain⟨x,hx,hxd⟩:=hi.get hd
  exact e▸PyProof.Rows.getItem_tuple ⟨o,ho,hc,m,hd'⟩ (Int.le_trans (by decide) FS) (yz hsz) (kn (Array.length_toList▸(cy.mp hx).1)) (Array.getElem?_toList.symm.trans hx) (kQ x p (Mv.refl R) rfl hxd)
theorem uC(hs:ed X p u ds):p.s.TypeIs u "list"∨p.s.TypeIs u "tuple":=by
 induction hs using ed.casesOn with
 |list e ho hc=>exact .inl (e▸⟨_,ho,hc⟩)
 |tuple e ho hc=>exact .inr (e▸⟨_,ho,hc⟩)
theorem vo(R:X.rep p)(hs:ed X p u ds)(hsz:ds.length<2^62):GA X X.den p (call (.builtin "len") [u]) (.int ds.length) p.st:=by
 intro Q E kQ
 have K:Q (.int ds.length (p.s.toks+1)) {p.s with toks:=p.s.toks+1+1}:=kQ _ ⟨_,p.ρ,p.st⟩ (Mv.tick R) rfl (.int _ _)
 induction hs using ed.casesOn with
 | @list l o xs m e ho hc hd hi=>exact e▸PyProof.Rows.len_list ⟨o,ho,hc,m,hd⟩ (yz (hi.size▸hsz)) (hi.size.symm▸K)
 | @tuple l o xs m e ho hc hd hi=>exact e▸PyProof.Rows.len_tuple ⟨o,ho,hc,m,hd⟩ (yz (hi.size▸hsz)) (hi.size.symm▸K)
inductive LE(X:Cx)(p:Pt)(u:Value)(j:Nat)(ds:List D):Prop
 |mk (xs:Array Value) (m:Nat) (e:u= .ref (p.ρ j).1) (e2:(p.ρ j).2=(p.ρ j).1) (hl:IsL p.s.heap (p.ρ j).1 xs m) (hi:X.denL p xs.toList ds)
theorem kI(R:X.rep p){j:Nat}(hu:X.den p u (.ob j))(ho:aW p.st.σ j=some (.list ds)):LE X p u j ds:=by
 cases hu
 obtain⟨_,_,e,hl,hi⟩:HP .. :=R.obj j _ ho
 exact⟨_,_,rfl,e,hl,hi⟩
theorem kg(R:X.rep p)(ho:aW p.st.σ j=some (.list ds))(e:(p.ρ j).2=(p.ρ j).1)(hl:IsL p.s.heap (p.ρ j).1 xs n)(f:Array Value→Array Value)(hf:∀c,(p.cfg X.P).Le c→bH X.prog X.w c (f xs).toList es):
  X.mv p ⟨{p.s with heap:=p.s.heap.update (p.ρ j).1 (Obj.mapSeq f)},p.ρ,p.st.put j (.list es)⟩:=
 dJ.upd R ho (λ a b hb h1 h2=>(bt _ _ h1.symm).trans hb) (aM (Heap.SameBut.update ..).1.symm) rfl rfl rfl λ c l hc=>⟨_,_,e,by rw[hc];exact hl.update f,hf c l⟩
theorem mE(R:X.rep p){j:Nat}(hu:X.den p u (.ob j))(ho:aW p.st.σ j=some (.list ds)){i:Int}{t:Tok}{n:Nat}(hn:jK i=some n)(hlt:n<ds.length)(hsz:n<2^62)(hv:X.den p v d):
  GA X (λ _ _ _=>True) p (setItem u (.int i t) v) () (p.st.put j (.list (mF ds n d))):=by
 cases gd hn
 obtain⟨xs,m,rfl,e,hl,hi⟩:=kI R hu ho
 exact λ Q E kQ=>ph rfl hl hsz (hi.size.symm▸hlt) (kQ () ⟨_,p.ρ,p.st.put j (.list (mF ds n d))⟩ (kg R ho e hl _ λ c l=>by rw[Array.toList_setIfInBounds,EU];exact(hi.mono l).set n (hv.mono l)) rfl trivial)
theorem zM(R:X.rep p){j:Nat}(hu:X.den p u (.ob j))(ho:aW p.st.σ j=some (.list ds))(hsz:ds.length≤sizeLine)(hv:X.den p v d):
  GA X X.den p (call (.builtin "list.append") [u,v]) .none (p.st.put j (.list (ds++[d]))):=by
 obtain⟨xs,m,rfl,e,hl,hi⟩:=kI R hu ho
 exact λ Q E kQ=>call_meets PySem.F.slot_list_append ⟨_,hl,rfl⟩ PySem.F.entry_list_append (PySem.F.args_list_append_2 _ _) (list_append _ xs m v (hi.size.symm▸hsz))
  ⟨hl,kQ .none ⟨_,p.ρ,p.st.put j (.list (ds++[d]))⟩ (kg R ho e hl _ λ c l=>by rw[Array.toList_push];exact(hi.mono l).append (.cons (hv.mono l) .nil)) rfl .none⟩
theorem bH.eraseIdx{vs:List Value}(h:bH prog w c vs ds)(n:Nat):bH prog w c (vs.eraseIdx n) (ds.eraseIdx n):=
 h.ind (motive:=λ v d _=>∀n,bH prog w c (v.eraseIdx n) (d.eraseIdx n)) (λ n=>by induction n using Nat.casesAuxOn<;>exact .nil) (λ h r ih n=>by induction n using Nat.casesAuxOn with
  |zero=>exact r
  |succ n=>exact .cons h (ih n)) n
theorem Jw(ok:X.ok)(R:X.rep p){j:Nat}(hu:X.den p u (.ob j))(ho:aW p.st.σ j=some (.list (ds++[d])))(hsz:ds.length<sizeLine):
  GA X X.den p (call (.builtin "list.pop") [u]) d (p.st.put j (.list ds)):=by
 obtain⟨xs,m,rfl,e,hl,hi⟩:=kI R hu ho
 obtain⟨y,hy,hyd⟩:=hi.get (i:=ds.length) (d:=d) List.getElem?_concat_length
 have e1:xs.size=ds.length+1:=hi.size.trans List.length_append
 have e2:xs.size-1=ds.length:=ae (·-1) e1
 intro Q E kQ
 have M:=kg (es:=ds) R ho e hl (λ z=>z.eraseIdxIfInBounds (xs.size-1)) λ c l=>by
  have:=(hi.mono l).eraseIdx ds.length
  rw[List.eraseIdx_append_of_length_le (aq _),Nat.sub_self,show[d].eraseIdx 0=[]from rfl,aH]at this
  rw[e2,Array.toList_eraseIdxIfInBounds]
  exact this
 exact call_meets PySem.F.slot_list_pop ⟨_,hl,rfl⟩ PySem.F.entry_list_pop (PySem.F.args_list_pop_1 _) (MeetsSeq.list_pop_last _ _ m y (e2▸Array.getElem?_toList.symm.trans hy) (e1▸hsz)) ⟨hl,kQ y ⟨_,p.ρ,p.st.put j (.list ds)⟩ M rfl (hyd.mono (M.le ok))⟩
end
end
section
variable{M:Model}{Γ:Ctx}{p:Pos}{s:Shared}{α:Type}
theorem size_update(h:Heap)(a:Addr)(f:Obj→Obj):(h.update a f).objs.size=h.objs.size:=(Heap.SameBut.update ..).1
theorem lZ{t:Sem Fin}{fs:List Frame}{s':Shared}{e:End}(h:Runs M Γ p t fs s e s'):s.heap.objs.size≤s'.heap.objs.size:=by
 induction h<;>(try simp only[Shared.setGen,size_update,bA]at*)<;>first|omega|skip
theorem rM{s':Shared}{r:Result}(h:Returns M Γ p s r s'):s.heap.objs.size≤s'.heap.objs.size:=lZ h
theorem wg{g:Nat}{r:Resume}{s':Shared}{res:GenResult}(h:Wakes M Γ p g r s res s'):s.heap.objs.size≤s'.heap.objs.size:=by
 unfold Wakes at h
 split at h
 ·exact h.elim
 ·split at h
  ·obtain⟨e₁,s₁,hr,_,_,rfl⟩:=h;exact(lZ hr:(s.setGen g .running).heap.objs.size≤s₁.heap.objs.size)
  ·rw[h.2];exact aq _
  ·rw[h.2];exact aq _
 ·obtain⟨e₁,s₁,hr,_,_,rfl⟩:=h;exact(lZ hr:(s.setGen g .running).heap.objs.size≤s₁.heap.objs.size)
 ·rw[h.2];exact aq _
 ·rw[h.2];exact aq _
theorem Er(M:Model)(Γ:Ctx)(n:Nat)(t:Sem α):∀(Q:α→Pos→Shared→Prop) (E:Value→Pos→Shared→Prop) (p:Pos) (s:Shared),n≤s.heap.objs.size→Sem.wp M Γ t Q E p s→
  Sem.wp M Γ t (λ a p' s'=>n≤s'.heap.objs.size∧Q a p' s') (λ e p' s'=>n≤s'.heap.objs.size∧E e p' s') p s:=by
 induction t with
 |pure a=>intro Q E p s hn h;exact⟨hn,h⟩
 |raise e=>intro Q E p s hn h;exact⟨hn,h⟩
 |unsupported _=>intro Q E p s _ h;exact h
 |finish _=>intro Q E p s _ h;exact h
 |rule _ k ih=>intro Q E p s hn h;exact ih () Q E p s hn h
 |«at» p' k ih=>intro Q E p s hn h;exact ih () Q E p' s hn h
 |load a _ k ih=>intro Q E p s hn h;obtain⟨o,ho,h⟩:=h;exact⟨o,ho,ih o Q E p s hn h⟩
 |update a _ f k ih=>intro Q E p s hn h;exact⟨h.1,ih () Q E p _ (by show n≤(s.heap.update a f).objs.size;rw[size_update];exact hn) h.2⟩
 |loadIfAlive a k ih=>intro Q E p s hn h;exact ih _ Q E p s hn h
 |point _ k ih=>intro Q E p s hn h;exact ih () Q E p s hn h
 |register _ _=>intro Q E p s _ h;exact h
 |alloc o k ih=>intro Q E p s hn h;exact ih _ Q E p _ (by show n≤(s.heap.push o).objs.size;rw[bA];exact Nat.le_succ_of_le hn) h
 |fresh k ih=>intro Q E p s hn h;exact ih _ Q E p _ hn h
 |ask k ih=>intro Q E p s hn h;exact ih _ Q E p s hn h
 |choose src m k ih=>intro Q E p s hn h;exact⟨h.1,ih _ Q E p _ hn h.2⟩
 |os q _ k ih=>intro Q E p s hn h;exact ih _ Q E p _ hn h
 |call c hd _ _ k ih=>intro Q E p s hn h;obtain⟨r,s',hr,h⟩:=h;exact⟨r,s',hr,ih r Q E p s' (ad hn (rM hr)) h⟩
 |handled own k ih=>intro Q E p s hn h;exact ih _ Q E p s hn h
 |genState g k ih=>intro Q E p s hn h;obtain⟨st,hs,h⟩:=h;exact⟨st,hs,ih _ Q E p s hn h⟩
 |newGen c k ih=>intro Q E p s hn h;exact ih _ Q E p _ hn h
 |resume g r _ k ih=>intro Q E p s hn h;obtain⟨res,s',hw,h⟩:=h;exact⟨res,s',hw,ih res Q E p s' (ad hn (wg hw)) h⟩
 |yield _ _ _ _=>intro Q E p s _ h;exact h
 |stack k ih=>intro Q E p s hn h;exact ih _ Q E p s hn h
 |fork _ _=>intro Q E p s _ h;exact h
 |thread k ih=>intro Q E p s hn h;exact ih _ Q E p s hn h
 |await _ _ _ _ _=>intro Q E p s _ h;exact h
theorem cj{A:Around}{t:Sem α}{Q:α→Shared→Prop}{E:VS}(h:wpAny M A t (λ a s'=>s.heap.objs.size≤s'.heap.objs.size→Q a s') (λ e s'=>s.heap.objs.size≤s'.heap.objs.size→E e s') s):wpAny M A t Q E s:=
 λ Γ p hΓ=>Sem.wp_mono M Γ _ (λ _ _ _ x=>x.2 x.1) (λ _ _ _ x=>x.2 x.1) _ _ (Er M Γ _ t _ _ p s (aq _) (h Γ p hΓ))
end
section
variable{own:List Addr}{n i:Nat}
noncomputable def eM:List String:=["enumerate","zip","dict_itemiterator","dict_reverseitemiterator","odict_iterator","itertools.zip_longest","itertools.pairwise"]
noncomputable def l4(c:dW)(own fp:List Addr):Prop:=∀b∈fp,b∈own∨¬c.U b∧∃o,c.h.get? b=some o
theorem l4.mono{c c':dW}{fp:List Addr}(h:l4 c own fp)(l:c.Le c'):l4 c' own fp:=λ b hb=>(h b hb).imp id λ h=>h.2.elim λ o ho=>⟨(l.same b o ho h.1).2,o,(l.same b o ho h.1).1⟩
section
variable(prog:Program)(w:World)(A:Around)
inductive jt(c:dW)(I:Addr)(own wo:List Addr)(ds:List D):Prop
 |mk {fp wr:List Addr} {n:Nat} {P:Nat→Value→Prop} {St:Nat→Heap→Prop} {i:Nat} (W:Walks prog w A I fp wr n P St) (hst:St i c.h) (hn:i+ds.length=n)
   (hfp:l4 c own fp) (hwr:∀b∈wr,b∈wo) (hI:∀j h,St j h→∃o T vs,h.get? I=some o∧o.cls= .type T∧o.data= .fields vs∧eM.contains T=false)
   (hd:∀j d,ds[j]?=some d→∀v,P (i+j) v→b8 prog w c v d)
inductive j8(c:dW)(I:Addr)(own wo:List Addr)(ds:List D):Prop
 |mk {fp wr:List Addr} {n:Nat} {P:Nat→Array Value→Prop} {St:Nat→Heap→Prop} {oZ:Nat→Addr→Heap→Prop} {i:Nat} (W:WalksT prog w A I fp wr n P St oZ) (hst:St i c.h) (hn:i+ds.length=n)
   (hfp:l4 c own fp) (hwr:∀b∈wr,b∈wo)
   (hd:∀j d,ds[j]?=some d→∀vals,P (i+j) vals→∃es,d= .tup es∧bH prog w c vals.toList es)
noncomputable def ct(c:dW)(I:Addr)(own wo:List Addr)(tp:Bool)(ds:List D):Prop:=cond tp (j8 prog w A c I own wo ds) (jt prog w A c I own wo ds)
end
section
variable{prog:Program}{w:World}{h₁:Heap}{P W:Addr→Prop}{p q:Pt}
theorem Mv.ofOwn{s':Shared}(R:dJ prog w h₁ P p)(hk:∀b o,b∉own→p.s.heap.get? b=some o→s'.heap.get? b=some o)(hsz:p.s.heap.objs.size≤s'.heap.objs.size)(hP:∀b∈own,P b)(hW:∀b∈own,W b)(hg:s'.gens=p.s.gens)(hd:s'.drawn=p.s.drawn)(hos:s'.os=p.s.os):Mv prog w h₁ P W p ⟨s',p.ρ,p.st⟩:=by
 have k {b o} (hb:fT p.ρ p.st.σ b) (h:p.s.heap.get? b=some o):s'.heap.get? b=some o:=hk b o (λ m=>R.footNot hb (hP b m)) h
 exact⟨⟨λ b o h=>hk b o (λ m=>aN.mpr (R.priv b (hP b m)).2 (az h)) (R.keep b o h),ao R.size hsz,R.top,R.lt',
  λ i o hi=>(R.obj i o hi).mono ⟨λ b o hb hu=>⟨hk b o (λ m=>hu (.inr (hP b m))) hb,hu⟩,λ _ _=>rfl,aq _⟩ (λ o'=>k ⟨i,o,hi,.inl rfl⟩) λ o'=>k ⟨i,o,hi,.inr rfl⟩,R.new,R.own,R.sep,λ b hb=>⟨ao (R.priv b hb).1 hsz,(R.priv b hb).2⟩⟩,
  hg,hd,hos,hsz,λ b o hb hf hw=>.inl (hk b o (λ m=>hw (hW b m)) hb),λ _ _=>rfl,aq _,λ i o hi=>.inl ⟨R.lt' i o hi,o,hi⟩⟩
variable{A:Around}{I:Addr}{own wo:List Addr}{tp:Bool}{ds:List D}{d:D}{c c':dW}
theorem ct.plain{fp wr:List Addr}{P:Nat→Value→Prop}{St:Nat→Heap→Prop}(W:Walks prog w A I fp wr n P St)(hst:St i c.h)(hn:i+ds.length=n)(hfp:l4 c own fp)(hwr:∀b∈wr,b∈wo)(hI:∀j h,St j h→∃o T vs,h.get? I=some o∧o.cls= .type T∧o.data= .fields vs∧eM.contains T=false)(hd:∀j d,ds[j]?=some d→∀v,P (i+j) v→b8 prog w c v d):ct prog w A c I own wo false ds:=jt.mk W hst hn hfp hwr hI hd
theorem ct.pair{fp wr:List Addr}{P:Nat→Array Value→Prop}{St:Nat→Heap→Prop}{oZ:Nat→Addr→Heap→Prop}(W:WalksT prog w A I fp wr n P St oZ)(hst:St i c.h)(hn:i+ds.length=n)(hfp:l4 c own fp)(hwr:∀b∈wr,b∈wo)(hd:∀j d,ds[j]?=some d→∀vals,P (i+j) vals→∃es,d= .tup es∧bH prog w c vals.toList es):ct prog w A c I own wo true ds:=j8.mk W hst hn hfp hwr hd
theorem ct.mono{own':List Addr}(It:ct prog w A c I own wo tp ds)(hst:∀{fp},l4 c own fp→∀b∈fp,∀o,c.h.get? b=some o→c'.h.get? b=some o)(hf:∀{fp},l4 c own fp→l4 c' own' fp)(hd:∀v d,d∈ds→b8 prog w c v d→b8 prog w c' v d)(hL:∀v es,.tup es∈ds→bH prog w c v es→bH prog w c' v es):ct prog w A c' I own' wo tp ds:=by
 induction tp using Bool.casesOn with
 |false=>
  obtain⟨Wk,st,hn,hfp,hwr,hI,h⟩:jt .. :=It
  exact .plain Wk (Wk.frame _ _ _ st (hst hfp)) hn (hf hfp) hwr hI λ j d hj v hv=>hd v d (List.mem_of_getElem? hj) (h j d hj v hv)
 |true=>
  obtain⟨Wk,st,hn,hfp,hwr,h⟩:j8 .. :=It
  exact .pair Wk (Wk.frame _ _ _ st (hst hfp)) hn (hf hfp) hwr λ j d hj v hv=>by obtain⟨es,rfl,e⟩:=h j d hj v hv;exact⟨es,rfl,hL _ es (List.mem_of_getElem? hj) e⟩
theorem ct.keep(It:ct prog w A (p.cfg P) I own wo tp ds)(R:dJ prog w h₁ P p)(m:Mv prog w h₁ P W p q)(hWP:∀a,W a→P a)(hP:∀b∈own,P b)(hW:∀b∈own,¬W b)(hN:∀b∈own,b≠h₁.objs.size):ct prog w A (q.cfg P) I own wo tp ds:=
 have l:=m.le hWP
 It.mono (λ hfp b hb o ho=>(hfp b hb).elim (λ h=>m.sameX ho (λ f=>R.footNot f (hP b h)) (hW b h) (hN b h)) λ h=>(l.same b o ho h.1).1) (·.mono l) (λ _ _ _ h=>h.mono l) λ _ _ _ h=>h.mono l
end
noncomputable def dT:Expr→Bool
 | .Tuple .. =>true
 |_=>false
theorem nV{prog:Program}{w:World}{A:Around}{E:VS}{s:Shared}{target:Expr}{I:Addr}{v:Value}{Q:Unit→Shared→Prop}{o:Obj}{T:String}{vs:Array Value}(ho:s.heap.get? I=some o)(hc:o.cls= .type T)(hd:o.data= .fields vs)(hT:eM.contains T=false)(h:Q () s):wpAny (model prog w) A (letOwnedTupleGo target (.ref I) v) Q E s:=by
 have K:wpAny (model prog w) A (letOwnedTupleGo (.Tuple [] 0 ⟨0,0,0,0⟩) (.ref I) v) Q E s:=by
  induction v using Value.casesOn with
  |ref a=>
   refine aa (wpAny_load ho ?_)
   rw[hc,hd]
   show wpAny _ _ (if(eM.contains T&&vs[0]?==some (rawInt a))=true then _ else _) Q E s
   rw[hT]
   exact ak h
  |_=>exact ak h
 induction target using Expr.casesOn with
 |Tuple|List=>exact K
 |_=>exact ak h
section
variable{X:Cx}{p:Pt}{I:Addr}{own wo:List Addr}{tp:Bool}{ds:List D}{d:D}{target:Expr}
theorem qg(R:X.rep p)(ok:X.ok)(It:ct X.prog X.w X.A (p.cfg X.P) I own wo tp (d::ds))(hP:∀b∈own,X.P b)(hW:∀b∈wo,X.W b)(ht:tp=true→dT target=true){Q:VS}{E:VS}(k:∀v q,X.mv p q→q.st=p.st→X.den q v d→ct X.prog X.w X.A (q.cfg X.P) I own wo tp ds→Q v q.s):
  wpAny X.m X.A (pyNext (.ref I)) (λ r s₁=>∃v,r=some v∧wpAny X.m X.A (letOwnedTupleGo target (.ref I) v) (λ _ s'=>Q v s') E s₁) E p.s:=by
 have hPw:∀b∈wo,X.P b:=λ b hb=>ok b (hW b hb)
 have sh (i j:Nat):i+(j+1)=i+1+j:=(Nat.succ_add_eq_add_succ i j).symm
 induction tp using Bool.casesOn with
 |false=>
  obtain⟨Wk,hst,hn,hfp,hwr,hI,hd⟩:jt .. :=It
  refine cj (Wk.item _ p.s _ _ (hn▸Nat.lt_add_of_pos_right (Nat.succ_pos _)) hst λ v h' tk hv hst' hk hsz=>?_)
  have M:X.mv p ⟨{p.s with heap:=h',toks:=tk},p.ρ,p.st⟩:=Mv.ofOwn R (λ b o hb e=>hk b o (λ m=>hb (hwr b m)) e) hsz hPw hW rfl rfl rfl
  have l:=M.le ok
  obtain⟨o,T,vs,ho,hc,hdd,hT⟩:=hI _ _ hst'
  exact⟨v,rfl,nV ho hc hdd hT (k v _ M rfl ((hd 0 d rfl v hv).mono l) (.plain Wk hst' (((sh ..)).symm.trans hn) (hfp.mono l) hwr hI λ j e hj v' hv'=>(hd (j+1) e hj v' (sh _ j▸hv')).mono l))⟩
 |true=>
  obtain⟨Wk,hst,hn,hfp,hwr,hd⟩:j8 .. :=It
  have htt:=ht rfl
  induction target using Expr.casesOn with
  |Tuple elts kk pos=>
   refine cj (Wk.item _ p.s _ _ (hn▸Nat.lt_add_of_pos_right (Nat.succ_pos _)) hst λ T vals h' tk hv hT1 hT2 hmid hk hsz=>⟨_,rfl,?_⟩)
   refine cj (Wk.go elts kk pos _ T {p.s with heap:=h',toks:=tk} _ _ hmid λ h'' hst' hk2 hsz2=>?_)
   have M:X.mv p ⟨{p.s with heap:=h'',toks:=tk},p.ρ,p.st⟩:=Mv.ofOwn R (λ b o hb e=>hk2 b o (λ m=>hb (hwr b m)) (hk b o (λ m=>hb (hwr b m)) e)) (ad hsz hsz2) hPw hW rfl rfl rfl
   have l:=M.le ok
   obtain⟨es,rfl,hes⟩:=hd 0 d rfl vals hv
   obtain⟨oT,hoT,hcT,nT,hdT⟩:=hT2
   exact k (.ref T) ⟨{p.s with heap:=h'',toks:=tk},p.ρ,p.st⟩ M rfl (.tup (hk2 T _ (Wk.apart _ T h' hmid) hoT) hcT hdT (λ h=>aN.mpr hT1 (h.elim R.footLt λ h=>(R.priv T h).1)) (hes.mono l))
    (.pair Wk hst' ((sh ..).symm.trans hn) (hfp.mono l) hwr λ j e hj v' hv'=>(hd (j+1) e hj v' (sh _ j▸hv')).imp λ _ h=>⟨h.1,h.2.mono l⟩)
  |_=>exact ftK htt
theorem s7(R:X.rep p)(ok:X.ok)(It:ct X.prog X.w X.A (p.cfg X.P) I own wo tp [])(hP:∀b∈own,X.P b)(hW:∀b∈wo,X.W b){Q:Option Value→Shared→Prop}{E:VS}(k:∀q,X.mv p q→q.st=p.st→Q none q.s):wpAny X.m X.A (pyNext (.ref I)) Q E p.s:=by
 have K {wr:List Addr} (hwr:∀b∈wr,b∈wo) (h':Heap) (tk:Nat) (hk:∀b o,b∉wr→p.s.heap.get? b=some o→h'.get? b=some o) (hsz:p.s.heap.objs.size≤h'.objs.size):Q none {p.s with heap:=h',toks:=tk}:=
  k ⟨_,p.ρ,p.st⟩ (Mv.ofOwn R (λ b o hb e=>hk b o (λ m=>hb (hwr b m)) e) hsz (λ b hb=>ok b (hW b hb)) hW rfl rfl rfl) rfl
 induction tp using Bool.casesOn with
 |false=>
  obtain⟨Wk,hst,hn,hfp,hwr,_⟩:jt .. :=It
  subst hn
  exact cj (Wk.done p.s _ _ hst λ h' tk hk hsz=>K hwr h' tk hk hsz)
 |true=>
  obtain⟨Wk,hst,hn,hfp,hwr,_⟩:j8 .. :=It
  subst hn
  exact cj (Wk.done p.s _ _ hst λ h' tk hk hsz=>K hwr h' tk hk hsz)
end
end
section
variable{o:Obj}{prog:Program}{w:World}{c:dW}
structure cu(p q:Pt):Prop where
 keep:∀b o,p.s.heap.get? b=some o→q.s.heap.get? b=some o
 size:p.s.heap.objs.size≤q.s.heap.objs.size
 gens:q.s.gens=p.s.gens
 drawn:q.s.drawn=p.s.drawn
 os:q.s.os=p.s.os
 rho:q.ρ=p.ρ
 st:q.st=p.st
section
variable{prog:Program}{w:World}{h₁:Heap}{P W:Addr→Prop}{p q:Pt}{new:List Addr}
noncomputable def more(P:Addr→Prop)(new:List Addr)(a:Addr):Prop:=P a∨a∈new
noncomputable def dV(p q:Pt)(new:List Addr):Prop:=∀b∈new,p.s.heap.objs.size≤b∧b<q.s.heap.objs.size
theorem cu.eq(g:cu p q):q=⟨q.s,p.ρ,p.st⟩:=by
 show(⟨q.s,q.ρ,q.st⟩:Pt)=_
 rw[g.rho,g.st]
theorem cu.rep(g:cu p q)(R:dJ prog w h₁ P p)(hn:dV p q new):dJ prog w h₁ (more P new) q:=
 Eq.substr (p:=dJ prog w h₁ (more P new)) g.eq (R.into g.keep g.size (λ a h=>h.imp id (hn a)) (.inl R.top))
theorem cu.mv0(g:cu p q)(R:dJ prog w h₁ P p):Mv prog w h₁ P W p q:=Eq.substr (p:=Mv prog w h₁ P W p) g.eq (Mv.grow R g.keep g.size g.gens g.drawn g.os)
theorem cu.cfg(g:cu p q)(hn:dV p q new):(p.cfg P).Le (q.cfg (more P new)):=
 Eq.substr (p:=λ q=>(p.cfg P).Le (q.cfg (more P new))) g.eq (tO g.keep λ a h=>h.imp id λ m=>(hn a m).1)
theorem cu.trans{r:Pt}(x:cu p q)(y:cu q r):cu p r:=
 ⟨λ b o h=>y.keep b o (x.keep b o h),ad x.size y.size,y.gens.trans x.gens,y.drawn.trans x.drawn,y.os.trans x.os,y.rho.trans x.rho,y.st.trans x.st⟩
theorem x9{h:Heap}:h.objs.size≤(h.push o).objs.size:=bA .. ▸bT _
theorem cu.push(p:Pt)(o:Obj)(t:Nat):cu p ⟨{p.s with heap:=p.s.heap.push o,toks:=t},p.ρ,p.st⟩:=
 ⟨λ b o' h=>ah _ h,x9,rfl,rfl,rfl,rfl,rfl⟩
end
noncomputable def GK(X:Cx)(p:Pt)(lk:List Addr)(tp:Bool)(ds:List D)(Q:VS):Prop:=
 ∀I new q,cu p q→dV p q new→ct X.prog X.w X.A (q.cfg (more X.P new)) I (new++lk) new tp ds→Q (.ref I) q.s
noncomputable def GI(X:Cx)(p:Pt)(t:Sem Value)(lk:List Addr)(tp:Bool)(ds:List D):Prop:=
 ∀(Q:VS) (E:VS),GK X p lk tp ds Q→wpAny X.m X.A t Q E p.s
theorem bH.at{xs:Array Value}{ds:List D}(h:bH prog w c xs.toList ds){j:Nat}{d:D}{v:Value}(hj:ds[j]?=some d)(hv:xs[0+j]?=some v):b8 prog w c v d:=by
 obtain⟨y,hy,hd⟩:=h.get hj
 exact an (hy.symm.trans (Array.getElem?_toList.trans (bC j▸hv)))▸hd
section
variable{X:Cx}{p:Pt}{v u:Value}{a b d:D}{k:Bool}{ds es:List D}{lk fp wr:List Addr}{n:Nat}{Q:VS}{I:Addr}
abbrev o0(X:Cx)(p:Pt)(own fp:List Addr):Prop:=l4 (p.cfg X.P) own fp
theorem CO(kQ:GK X p lk false ds Q){q:Pt}{new:List Addr}(g:cu p q)(hn:dV p q new){P:Nat→Value→Prop}{St:Nat→Heap→Prop}(W:Walks X.prog X.w X.A I fp wr n P St)(hst:St 0 q.s.heap)(hl:ds.length=n)(hfp:o0 X p (new++lk) fp)(hwr:∀b∈wr,b∈new)(hI:∀j h,St j h→∃o T vs,h.get? I=some o∧o.cls= .type T∧o.data= .fields vs∧eM.contains T=false)(hd:∀j d,ds[j]?=some d→∀v,P (0+j) v→X.den p v d):Q (.ref I) q.s:=
 have le:=g.cfg (P:=X.P) hn
 kQ I new q g hn (.plain W (i:=0) hst ((bC _).trans hl) (l4.mono hfp le) hwr hI λ j d hj v hv=>(hd j d hj v hv).mono le)
theorem rj(kQ:GK X p lk true ds Q){q:Pt}{new:List Addr}(g:cu p q)(hn:dV p q new){P:Nat→Array Value→Prop}{St:Nat→Heap→Prop}{oZ:Nat→Addr→Heap→Prop}(W:WalksT X.prog X.w X.A I fp wr n P St oZ)(hst:St 0 q.s.heap)(hl:ds.length=n)(hfp:o0 X p (new++lk) fp)(hwr:∀b∈wr,b∈new)(hd:∀j d,ds[j]?=some d→∀vals,P (0+j) vals→∃es,d= .tup es∧X.denL p vals.toList es):Q (.ref I) q.s:=
 have le:=g.cfg (P:=X.P) hn
 kQ I new q g hn (.pair W (i:=0) hst ((bC _).trans hl) (l4.mono hfp le) hwr λ j d hj v hv=>(hd j d hj v hv).imp λ _ h=>⟨h.1,h.2.mono le⟩)
theorem ro{own fp':List Addr}(h:o0 X p lk fp'):o0 X p (own++lk) (own++fp'):=λ b hb=>(ca.mp hb).elim (λ h=>.inl (List.mem_append_left _ h)) λ h'=>(h b h').imp (b7 _) id
theorem nc(kQ:GK X p lk false ds Q){o:Obj}{P:Nat→Value→Prop}{St:Nat→Heap→Prop}(W:Walks X.prog X.w X.A p.s.heap.objs.size (p.s.heap.objs.size::fp) [p.s.heap.objs.size] n P St)(hst:St 0 (p.s.heap.push o))(hl:ds.length=n)(hfp:o0 X p lk fp){T:String}(hT:eM.contains T=false)(hI:∀j h,St j h→∃o vs,h.get? p.s.heap.objs.size=some o∧o.cls= .type T∧o.data= .fields vs)(hd:∀j d,ds[j]?=some d→∀v,P (0+j) v→X.den p v d):Q (.ref p.s.heap.objs.size) {p.s with heap:=p.s.heap.push o}:=
 CO kQ (cu.push p o p.s.toks) (List.forall_mem_singleton.mpr ⟨aq _,bA .. ▸Nat.lt_succ_self _⟩) W hst hl (ro (own:=[_]) hfp) (λ _ h=>h)
  (λ j h st=>(hI j h st).imp λ _ e=>⟨T,e.imp λ _ e=>⟨e.1,e.2.1,e.2.2,hT⟩⟩) hd
theorem j5{l:Addr}(ho:p.s.heap.get? l=some o)(hu:l∈lk∨¬p.U X.P l):o0 X p lk [l]:=List.forall_mem_singleton.mpr (hu.imp id λ h=>⟨h,o,ho⟩)
theorem yU(R:X.rep p)(hh:X.A.handled=none){l:Addr}{xs:Array Value}(hl:p.s.heap.IsList l xs)(hi:X.denL p xs.toList ds)(hu:l∈lk∨¬p.U X.P l):GI X p (pyIter (.ref l)) lk false ds:=λ Q E kQ=>by
 obtain⟨o,ho,r⟩:=id hl
 exact wpAny_pyIter_list hl (nc kQ (Walks.list hh _ l (aL (az ho)) xs) ⟨⟨_,Heap.get?_push_size _ rfl,rfl,rfl⟩,⟨o,ah _ ho,r⟩⟩ hi.size.symm (j5 ho hu) (by decide) (λ _ _ st=>st.1.imp λ _ h=>⟨_,h⟩) λ _ _ hj _=>hi.at hj)
theorem vy(R:X.rep p)(hh:X.A.handled=none){l:Addr}{xs:Array Value}(hl:p.s.heap.IsTuple l xs)(hi:X.denL p xs.toList ds)(hu:¬p.U X.P l):GI X p (pyIter (.ref l)) [] false ds:=λ Q E kQ=>by
 obtain⟨o,ho,r⟩:=id hl
 exact wpAny_pyIter_tuple hl (nc kQ (Walks.tuple hh _ l (aL (az ho)) xs) ⟨⟨_,Heap.get?_push_size _ rfl,rfl,rfl⟩,⟨o,ah _ ho,r⟩⟩ hi.size.symm (j5 ho (.inr hu)) (by decide) (λ _ _ st=>st.1.imp λ _ h=>⟨_,h⟩) λ _ _ hj _=>hi.at hj)
noncomputable def jL:List (D×D)→List D
 |[]=>[]
 |p::r=>p.1::jL r
theorem yN{kvs:List (cv×Value)}{es':List (D×D)}(h:dg prog w c kvs es'):∀{j:Nat} {d:D},(jL es')[j]?=some d→∃k v,kvs[j]?=some (k,v)∧d=dp k:=
 h.ind (motive:=λ kvs es _=>∀{j:Nat} {d:D},(jL es)[j]?=some d→∃k v,kvs[j]?=some (k,v)∧d=dp k) nsK λ {k v _ _ _} _ _ ih j d=>by
  induction j using Nat.casesAuxOn with
  |zero=>exact λ e=>⟨k,v,rfl,(an e).symm⟩
  |succ j=>exact ih
theorem yM(es:List (D×D)):(jL es).length=es.length:=by
 induction es with
 |nil=>rfl
 |cons e es ih=>exact ae (·+1) ih
theorem DS{k:cv}{v:Value}(h:(bV prog w).is k v=true):b8 prog w c v (dp k):=by
 induction k using Sum.casesOn with
 |inl i=>obtain⟨t,rfl⟩:=Value.isInt_shape h;exact .int i t
 |inr x=>obtain⟨t,rfl⟩:=Value.isStrOf_shape h;exact .str x t
theorem yV(R:X.rep p)(hh:X.A.handled=none){l:Addr}{kvs:List (cv×Value)}{es:List (D×D)}(hm:p.s.heap.DictOf (bV X.prog X.w) l kvs)(hi:dg X.prog X.w (p.cfg X.P) kvs es)(lo:(l==sysModules)=false)(hu:¬p.U X.P l):GI X p (pyIter (.ref l)) [] false (jL es):=λ Q E kQ=>by
 obtain⟨o,ho⟩:=iv hm
 obtain⟨ep,hm⟩:=hm.dictAt
 refine wpAny_pyIter_dict lo hm (nc kQ (Walks.dictKeys (knd:=bV X.prog X.w) hh _ l (aL (az ho)) kvs ep) ⟨⟨_,Heap.get?_push_size _ rfl,rfl,rfl⟩,hm.push _⟩ ((yM _).trans hi.length.symm) (j5 ho (.inr hu)) (by decide) (λ _ _ st=>st.1.imp λ _ h=>⟨_,h⟩) ?_)
 rintro j d hj v ⟨k,x,hx,hk⟩
 obtain⟨k',v',hk',rfl⟩:=yN hi hj
 rw[bC,hk']at hx
 obtain⟨rfl,_⟩:=eX (an hx)
 exact DS hk
noncomputable def fE:Nat→Int→Int→List D
 |0,_,_=>[]
 |n+1,a,c=>.int a::fE n (a+c) c
theorem uK(n:Nat):∀a c:Int,(fE n a c).length=n:=by
 induction n with
 |zero=>exact λ _ _=>rfl
 |succ n ih=>exact λ a c=>ae (·+1) (ih (a+c) c)
theorem uL(n:Nat):∀(a c:Int) (j:Nat) (d:D),(fE n a c)[j]?=some d→d= .int (a+j*c):=by
 induction n with
 |zero=>exact λ _ _ _ _=>nsK
 |succ n ih=>
  intro a c j d h
  induction j using Nat.casesAuxOn with
  |zero=>exact(an h).symm.trans (ae D.int (by rw[Int.natCast_zero,Int.zero_mul,Int.add_zero]))
  |succ j=>exact(ih (a+c) c j d h).trans (ae D.int (by rw[Int.natCast_succ,Int.add_mul,Int.one_mul,Int.add_assoc,Int.add_comm c]))
theorem vz(R:X.rep p)(hh:X.A.handled=none){r:Addr}{x y c:Int}{t u v:Tok}{n:Nat}(hr:IsRange p.s.heap r x y c t u v)(hs:Builtin.Range.small x y c=true)(hn:Builtin.Range.rangeSize x y c=(n:Int)):GI X p (pyIter (.ref r)) [] false (fE n x c):=λ Q E kQ=>by
 refine wpAny_pyIter_range hr hs (nc kQ (Walks.range hh _ x c n) ?_ (uK ..) (λ _=>nofun) (by decide) (λ _ _ st=>⟨_,_,st,rfl,rfl⟩) ?_)
 ·show IsRangeIter (p.s.heap.push _) p.s.heap.objs.size (x+((0:Nat):Int)*c) ((n:Int)-((0:Nat):Int)) c
  rw[hn,Int.natCast_zero,Int.zero_mul,Int.add_zero,Int.sub_zero]
  exact Heap.get?_push_size _ rfl
 ·rintro j d hj v ⟨t,rfl⟩
  rw[uL n x c j d hj,bC]
  exact .int _ _
end
end
section
noncomputable def o8:List D→List D→List D
 |a::x,b::y=>.tup [a,b]::o8 x y
 |_,_=>[]
theorem z3(x:List D):∀y:List D,(o8 x y).length=min x.length y.length:=by
 induction x with
 |nil=>exact λ y=>(Nat.zero_min _).symm
 |cons a x ih=>exact λ y=>by induction y using List.casesOn with
  |nil=>rfl
  |cons b y=>exact(ae (·+1) (ih y)).trans (Nat.succ_min_succ ..).symm
theorem z4(x:List D):∀(y:List D) (j:Nat) (d:D),(o8 x y)[j]?=some d→∃a b,x[j]?=some a∧y[j]?=some b∧d= .tup [a,b]:=by
 induction x with
 |nil=>exact λ y j d h=>nsK h
 |cons a x ih=>
  intro y j d
  induction y using List.casesOn with
  |nil=>exact nsK
  |cons b y=>induction j using Nat.casesAuxOn with
   |zero=>exact λ h=>⟨a,b,rfl,rfl,(an h).symm⟩
   |succ j=>exact ih y j d
noncomputable def eF:Nat→List D→List D
 |_,[]=>[]
 |n,a::x=>.tup [.int n,a]::eF (n+1) x
theorem zt(x:List D):∀n:Nat,(eF n x).length=x.length:=by
 induction x with
 |nil=>exact λ _=>rfl
 |cons a x ih=>exact λ n=>ae (·+1) (ih (n+1))
theorem zu(x:List D):∀(n j:Nat) (d:D),(eF n x)[j]?=some d→∃a,x[j]?=some a∧d= .tup [.int ((n+j:Nat):Int),a]:=by
 induction x with
 |nil=>exact λ _ _ _=>nsK
 |cons a x ih=>
  intro n j d
  induction j using Nat.casesAuxOn with
  |zero=>exact λ h=>⟨a,rfl,(an h).symm⟩
  |succ j=>exact λ h=>Nat.succ_add_eq_add_succ n j▸ih (n+1) j d h
theorem pu{N a b:Nat}(h:a≠b):N+a≠N+b:=mt Nat.add_left_cancel h
theorem qQ{N a b:Nat}(h:a<b):N≤N+a∧N+a<N+b:=⟨aB ..,Nat.add_lt_add_left h _⟩
section
variable{X:Cx}{p:Pt}{v u:Value}{a b d:D}{k:Bool}{ds es:List D}
theorem Cg(R:X.rep p)(hh:X.A.handled=none){l m:Addr}{xs ys:Array Value}(hl:p.s.heap.IsList l xs)(hm:p.s.heap.IsList m ys)(hi:X.denL p xs.toList ds)(hj:X.denL p ys.toList es)(hu:¬p.U X.P l)(hu':¬p.U X.P m):
  GI X p (call (.type "zip") [.ref l,.ref m]) [] true (o8 ds es):=by
 intro Q E kQ
 refine call_zip_2 hl hm λ h' hz hTI hTO hi1 hi2 hsz hk=>?_
 obtain⟨o,ho,r⟩:=id hl
 obtain⟨o',ho',r'⟩:=id hm
 have lt {a}:l≠p.s.heap.objs.size+a:=aL (ao (az ho) (aB ..))
 have lt' {a}:m≠p.s.heap.objs.size+a:=aL (ao (az ho') (aB ..))
 refine rj (new:=[p.s.heap.objs.size+4,p.s.heap.objs.size+2,p.s.heap.objs.size+3,p.s.heap.objs.size+0,p.s.heap.objs.size+1]) kQ (q:=⟨{p.s with heap:=h'},p.ρ,p.st⟩) ⟨hk,hsz▸aB ..,rfl,rfl,rfl,rfl,rfl⟩ ?_
  (WalksT.zip2 hh (p.s.heap.objs.size+4) (p.s.heap.objs.size+2) (p.s.heap.objs.size+3) (p.s.heap.objs.size+0) (p.s.heap.objs.size+1) l m ⟨pu (by decide),pu (by decide),pu (by decide),pu (by decide),pu (by decide),pu (by decide),pu (by decide),pu (by decide),pu (by decide),pu (by decide),lt,lt,lt,lt,lt',lt',lt',lt'⟩ xs ys)
  ⟨hz,hTI,⟨_,_,hTO⟩,hi1,hi2,⟨o,hk _ _ ho,r⟩,⟨o',hk _ _ ho',r'⟩⟩ (by rw[z3,←hi.size,←hj.size])
  (ro (fp':=[l,m]) (bv.mpr ⟨.inr ⟨hu,_,ho⟩,j5 ho' (.inr hu')⟩))
  (bv.mpr ⟨.head _,λ _ h=>.tail _ (.tail _ h)⟩) ?_
 ·have N {a} (h:a<5):p.s.heap.objs.size≤p.s.heap.objs.size+a∧p.s.heap.objs.size+a<h'.objs.size:=hsz▸qQ h
  exact bv.mpr ⟨N (by decide),bv.mpr ⟨N (by decide),bv.mpr ⟨N (by decide),bv.mpr ⟨N (by decide),List.forall_mem_singleton.mpr (N (by decide))⟩⟩⟩⟩
 ·rintro j d hjd vals ⟨x,y,hx,hy,rfl⟩
  obtain⟨a,b,ha,hb,rfl⟩:=z4 _ _ _ _ hjd
  exact⟨_,rfl,.cons (hi.at ha hx) (.cons (hj.at hb hy) .nil)⟩
theorem xb{xs:Array Value}{lk fp:List Addr}{Q:VS}(kQ:GK X p lk true (eF 0 ds) Q){h':Heap}(hk:∀b o,p.s.heap.get? b=some o→h'.get? b=some o)(hsz:h'.objs.size=p.s.heap.objs.size+2)(hi:X.denL p xs.toList ds){St:Nat→Heap→Prop}{oZ:Nat→Addr→Heap→Prop}(W:WalksT X.prog X.w X.A (p.s.heap.objs.size+1) ((p.s.heap.objs.size+1)::p.s.heap.objs.size::fp) [p.s.heap.objs.size+1,p.s.heap.objs.size] xs.size (λ i vals=>∃t x,xs[i]?=some x∧vals= #[.int i t,x]) St oZ)(hst:St 0 h')(hfp:o0 X p lk fp):Q (.ref (p.s.heap.objs.size+1)) {p.s with heap:=h'}:=by
 have N {a} (h:a<2):p.s.heap.objs.size≤p.s.heap.objs.size+a∧p.s.heap.objs.size+a<h'.objs.size:=hsz▸qQ h
 refine rj (new:=[p.s.heap.objs.size+1,p.s.heap.objs.size]) kQ (q:=⟨{p.s with heap:=h'},p.ρ,p.st⟩) ⟨hk,hsz▸aB ..,rfl,rfl,rfl,rfl,rfl⟩ (bv.mpr ⟨N (a:=1) (by decide),List.forall_mem_singleton.mpr (N (a:=0) (by decide))⟩) W hst ((zt ..).trans hi.size.symm)
  (ro (fp':=fp) hfp) (λ _ h=>h) ?_
 rintro j d hjd vals ⟨t,x,hx,rfl⟩
 obtain⟨a,ha,rfl⟩:=zu _ _ _ _ hjd
 exact⟨_,rfl,.cons (.int _ _) (.cons (hi.at ha hx) .nil)⟩
theorem qi(R:X.rep p)(hh:X.A.handled=none){l:Addr}{xs:Array Value}{lk:List Addr}(hl:p.s.heap.IsList l xs)(hi:X.denL p xs.toList ds)(hu:l∈lk∨¬p.U X.P l):
  GI X p (call (.type "enumerate") [.ref l]) lk true (eF 0 ds):=λ Q E kQ=>by
 obtain⟨o,ho,r⟩:=id hl
 have lt:=az ho
 exact call_enumerate_list hl λ h' he hit hsz hk=>xb kQ hk hsz hi (WalksT.enumerate hh (p.s.heap.objs.size+1) p.s.heap.objs.size l (Nat.succ_ne_self _) (aL (Nat.lt_succ_of_lt lt)) (aL lt) xs) ⟨⟨_,he⟩,hit,⟨o,hk _ _ ho,r⟩⟩ (j5 ho hu)
end
end
section
open AutoSeq1 (wpAny_loadPart')
variable{i:Nat}
section
variable{prog:Program}{w:World}{A:Around}{E:VS}{s:Shared}
theorem kq{it t:Addr}{items}{x:Value}{Q:VS}(hit:s.heap.IsTupleIter it t i)(ht:s.heap.IsTuple t items)(hx:items[i]?=some x)(hQ:∀h',h'.IsTupleIter it t (i+1)→Heap.SameBut it s.heap h'→Q x {s with heap:=h'}):
  wpAny (model prog w) A (Builtin.SmallTypes.nextOf (.ref it)) Q E s:=by
 obtain⟨o,ho,hc,hd⟩:=id hit
 obtain⟨ol,hol,_,nl,hdl⟩:=ht
 unfold Builtin.SmallTypes.nextOf
 refine aa (wpAny_callSpecial?_slot (name:=Str.ofString "__next__") hit.typeIs F.slot_tuple_iterator_next
  (wpAny_call_entry F.slot_tuple_iterator_next hit.typeIs F.entry_tuple_iterator_next ?_ (F.args_tuple_iterator_next_1 _)))
 show wpAny _ _ (field (.ref it) 0>>=_) _ _ s
 refine aa (wpAny_field ho hd (x:= .ref t) rfl ?_)
 show wpAny _ _ (if(Value.ref t==Value.none)=true then _ else _) _ _ s
 rw[aI (show¬((Value.ref t==Value.none)=true)from Bool.false_ne_true)]
 show wpAny _ _ (field (.ref it) 1>>=_) _ _ s
 refine aa (wpAny_field ho hd (x:= .int i 0) rfl ?_)
 show wpAny _ _ (seqItems? (.ref t)>>=_) _ _ s
 refine aa (wpAny_seqItems hol hdl ?_)
 simp only[Int.toNat_natCast,hx]
 refine aa (wpAny_setField ho hd (by simp) (ak ⟨x,rfl,ak (hQ _ ?_ (Heap.SameBut.update ..))⟩))
 exact⟨_,Heap.get?_update_self _ ho (Obj.isFreed_of_fields (Obj.data_mapFields hd _)),(Obj.cls_mapFields ..).trans hc,by
  rw[Obj.data_mapFields hd];simp[rawInt]⟩
theorem lG{it t:Addr}{items}{Q:VS}(hh:A.handled=none)(hit:s.heap.IsTupleIter it t i)(ht:s.heap.IsTuple t items)(hx:items[i]?=none)(hE:∀h' e,Heap.ExtBut it s.heap h'→(∃o,h'.get? e=some o∧o.cls= .type "StopIteration")→E (.ref e) {s with heap:=h'}):
  wpAny (model prog w) A (Builtin.SmallTypes.nextOf (.ref it)) Q E s:=by
 obtain⟨o,ho,hc,hd⟩:=id hit
 obtain⟨ol,hol,_,nl,hdl⟩:=ht
 unfold Builtin.SmallTypes.nextOf
 refine aa (wpAny_callSpecial?_slot (name:=Str.ofString "__next__") hit.typeIs F.slot_tuple_iterator_next
  (wpAny_call_entry F.slot_tuple_iterator_next hit.typeIs F.entry_tuple_iterator_next ?_ (F.args_tuple_iterator_next_1 _)))
 show wpAny _ _ (field (.ref it) 0>>=_) _ _ s
 refine aa (wpAny_field ho hd (x:= .ref t) rfl ?_)
 show wpAny _ _ (if(Value.ref t==Value.none)=true then _ else _) _ _ s
 rw[aI (show¬((Value.ref t==Value.none)=true)from Bool.false_ne_true)]
 show wpAny _ _ (field (.ref it) 1>>=_) _ _ s
 refine aa (wpAny_field ho hd (x:= .int i 0) rfl ?_)
 show wpAny _ _ (seqItems? (.ref t)>>=_) _ _ s
 refine aa (wpAny_seqItems hol hdl ?_)
 simp only[Int.toNat_natCast,hx]
 refine aa (wpAny_rule (aa (wpAny_setField ho hd (by simp) ?_)))
 show wpAny _ _ (newExc (.type "StopIteration") []>>=_) _ _ _
 refine aa ?_
 simp only[newExc,newTuple]
 refine aa (wpAny_newObj_type ?_ (by size_fits))
 refine aa (m:=firstArgMember _ _) (ch (a:=Value.none) (by first|rfl|(simp only[firstArgMember];rfl)) ?_)
 refine wpAny_newObj_type ?_ (by size_fits)
 simp only[raiseNew]
 refine aa (wpAny_handled ?_)
 first|rw[show A.in1.handled=none from hh]|rw[hh]
 refine aa (ak (wpAny_throw ?_))
 exact hE _ _ (((Heap.SameBut.update ..).extBut.push _).push _) ⟨_,Heap.get?_push_size _ rfl,rfl⟩
end
theorem vX{prog:Program}{w:World}{A:Around}(hh:A.handled=none)(it l:Addr)(hne:l≠it)(items:Array Value):
  Draws prog w A it [it,l] items.size (λ i v=>items[i]?=some v) (λ i h=>h.IsTupleIter it l i∧h.IsTuple l items) where
 live:=λ _ _ st=>let⟨o,ho,_⟩:=st.1;⟨o,ho⟩
 frame:=λ _ _ _ st hk=>⟨st.1.at λ o e=>hk it (by simp) o e,st.2.at λ o e=>hk l (by simp) o e⟩
 item:=λ i s Q E hi st hQ=>by
  refine kq st.1 st.2 (x:=items[i]) (by simp[hi]) λ h' hit' hs'=>?_
  exact hQ _ h' s.toks (by simp[hi]) ⟨hit',st.2.extBut hs'.extBut hne⟩ hs'
 done:=λ s Q E st hE=>lG hh st.1 st.2 (by simp) hE
set_option tactic.hygienic true in
theorem ia(l:Addr)(items:Array Value)(n:Nat)(dct:Option Addr)(sl:Array (Option Value)):
  Meets (Builtin.«enumerate.__new__» ⟨[.type "enumerate",.ref l],[]⟩) (λ _ R s=>s.heap.get? l=some {cls:= .type "tuple",dict:=dct,data:= .seq items n,slots:=sl}∧
   R (.ok (.ret (.ref (s.heap.push {cls:= .type "tuple_iterator",data:= .fields #[.ref l,.int 0 0]}).objs.size)))
    {s with heap:=(s.heap.push {cls:= .type "tuple_iterator",data:= .fields #[.ref l,.int 0 0]}).push {cls:= .type "enumerate",data:= .fields #[.none,.bool false,.ref s.heap.objs.size,rawInt 0,.none,.none]}}):=
 .of_wp λ prog w A R s h=>by
  obtain⟨hp,g,d,tk,os⟩:=s;obtain⟨hl,h⟩:=h
  have hsub:=sub_enumerate
  have hL:Heap.IsTuple (Shared.heap ⟨hp,g,d,tk,os⟩) l items:=⟨_,hl,rfl,n,rfl⟩
  wp_walk using wpAny_loadPart' hl
  refine wpAny_stack_any λ st=>ak ?_
  split
  ·rename_i c _ _ _ _ _
   cases(c==Value.type "enumerate")
   ·wp_walk using wpAny_loadPart' hl,wpAny_pyIter_tuple hL
    exact⟨_,rfl,h⟩
   ·wp_walk using wpAny_loadPart' hl,wpAny_pyIter_tuple hL
    exact⟨_,rfl,h⟩
  ·wp_walk using wpAny_loadPart' hl,wpAny_pyIter_tuple hL
   exact⟨_,rfl,h⟩
section
variable{prog:Program}{w:World}{A:Around}{E:VS}{s:Shared}
theorem i6{l:Addr}{items:Array Value}{Q:VS}(hL:s.heap.IsTuple l items)(h:∀h',IsEnum h' (s.heap.objs.size+1) s.heap.objs.size 0 .none→h'.IsTupleIter s.heap.objs.size l 0→h'.objs.size=s.heap.objs.size+2→
   (∀b o,s.heap.get? b=some o→h'.get? b=some o)→Q (.ref (s.heap.objs.size+1)) {s with heap:=h'}):
  wpAny (model prog w) A (call (.type "enumerate") [.ref l]) Q E s:=by
 obtain⟨⟨c,dct,dt,sl⟩,hl,hc,n,hd⟩:=hL
 replace hc:c= .type "tuple":=hc
 replace hd:dt= .seq items n:=hd
 subst hc hd
 refine callType_new F.called_enumerate (by decide) (F.typeCall_enumerate_1 _) (F.newCall_enumerate_1 _) (λ obj=>F.args_object_init_2 obj _) F.entry_enumerate_new
  (ia l items n dct sl) ⟨hl,?_⟩
 have hz:(s.heap.push {cls:= .type "tuple_iterator",data:= .fields #[.ref l,.int 0 0]}).objs.size=s.heap.objs.size+1:=bA ..
 show _∧_
 rw[hz]
 have he:IsEnum ((s.heap.push {cls:= .type "tuple_iterator",data:= .fields #[.ref l,.int 0 0]}).push
   {cls:= .type "enumerate",data:= .fields #[.none,.bool false,.ref s.heap.objs.size,rawInt 0,.none,.none]}) (s.heap.objs.size+1) s.heap.objs.size 0 .none:=by
  have:=Heap.get?_push_size (s.heap.push {cls:= .type "tuple_iterator",data:= .fields #[.ref l,.int 0 0]})
   (o:={cls:= .type "enumerate",data:= .fields #[.none,.bool false,.ref s.heap.objs.size,rawInt 0,.none,.none]}) rfl
  rw[hz]at this;exact this
 refine⟨⟨_,he,rfl⟩,h _ he ⟨_,ah _ (Heap.get?_push_size _ rfl),rfl,rfl⟩ (by rw[bA,hz]) λ b o x=>ah _ (ah _ x)⟩
end
section
variable{X:Cx}{p:Pt}{v u:Value}{a b d:D}{k:Bool}{ds es:List D}
theorem vB(R:X.rep p)(hh:X.A.handled=none){l:Addr}{xs:Array Value}(hl:p.s.heap.IsTuple l xs)(hi:X.denL p xs.toList ds)(hu:¬p.U X.P l):
  GI X p (call (.type "enumerate") [.ref l]) [] true (eF 0 ds):=λ Q E kQ=>by
 obtain⟨o,ho,r⟩:=id hl
 have lt:=az ho
 exact i6 hl λ h' he hit hsz hk=>xb kQ hk hsz hi (WalksT.enumerateD (vX (A:=X.A.in1) hh p.s.heap.objs.size l (aL lt) xs) (p.s.heap.objs.size+1) (Nat.succ_ne_self _)
  (λ h=>(aJ.mp h).elim (Nat.succ_ne_self _) λ h=>aL (Nat.lt_succ_of_lt lt) (aC.mp h).symm) (.head _)) ⟨⟨_,he⟩,hit,⟨o,hk _ _ ho,r⟩⟩ (j5 ho (.inr hu))
end
end
section
open AutoSeq1 (wpAny_loadPart')
variable{I:Addr}
theorem yu:typeLookup (.type "list_reverseiterator") "__len__"=pure none:=by rw[typeLookup_type,builtinLookup_eq_fast];kernel_rfl
theorem CD:typeLookup (.type "list_reverseiterator") "__length_hint__"=pure (some (.builtin "list_reverseiterator.__length_hint__")):=by rw[typeLookup_type,builtinLookup_eq_fast];kernel_rfl
theorem x0{prog:Program}{w:World}{A:Around}{fp wr:List Addr}{G:Array GenState→Array GenState→Prop}{n:Nat}{P:Nat→Value→Prop}{St:Nat→Shared→Prop}(W:WalksS prog w A I fp wr G n P St)(items:Array Value):WalksS prog w A I fp wr G (items.size+n) (λ i v=>if i<items.size then items[i]?=some v else P (i-items.size) v) (λ i s=>items.size≤i∧St (i-items.size) s) where
 sub:=W.sub
 grefl:=W.grefl
 gtrans:=W.gtrans
 frame:=λ i s h' tk hst ht hk=>⟨hst.1,W.frame _ s h' tk hst.2 ht hk⟩
 item:=λ i s Q E hi hst hQ=>W.item _ s Q E (Nat.sub_lt_left_of_lt_add hst.1 hi) hst.2 λ v s' hP hst' hm=>hQ v s' (by rw[aI (aN.mpr hst.1)];exact hP) ⟨Nat.le_succ_of_le hst.1,(Nat.succ_sub hst.1).symm▸hst'⟩ hm
 done:=λ s Q E hst hQ=>W.done s Q E (Nat.add_sub_cancel_left items.size n▸hst.2) hQ
 self:=λ i s Q E hst hQ=>W.self _ s Q E hst.2 hQ
section
variable{prog:Program}{w:World}{A:Around}{E:VS}{s:Shared}
theorem CC{Q:Bool→Shared→Prop}(hT:s.TypeIs (.ref I) "list_reverseiterator")(h:Q false s):wpAny (model prog w) A (Builtin.List.listLengthHint (.ref I)) Q E s:=by
 unfold Builtin.List.listLengthHint
 refine aa (wpAny_specialOf hT yu ?_)
 show wpAny _ _ (specialOf (Value.ref I) (Str.ofString "__length_hint__")>>=_) _ _ _
 refine aa (wpAny_specialOf hT CD ?_)
 (generalize hid:("list_reverseiterator.__length_hint__":String)=id0;(fail_if_success (clear hid id0));wp_delta;rw[show splitId id0=some ("list_reverseiterator","__length_hint__")from by subst hid;decide+kernel];subst hid)
 refine aa (wpAny_isInstance (b:=true) hT (by rw[isSubtype_type];kernel_rfl) ?_)
 exact ak h
end
end
section
open AutoSeq1 (wpAny_loadPart')
variable{W':Addr→Prop}{X:Cx}{q:Pt}{new:List Addr}{v:Value}{d:D}
section
variable{prog:Program}{w:World}{h₁:Heap}{P W:Addr→Prop}{p q r:Pt}{new:List Addr}
theorem cu.mvN(g:cu p q)(R:dJ prog w h₁ P p)(hn:dV p q new):Mv prog w h₁ (more P new) W' p q:=
 {g.mv0 (W:=W') R with rep:=g.rep R hn}
theorem cu.via(g:cu p q)(R:dJ prog w h₁ P p)(hn:dV p q new)(hW:∀a,W' a→W a∨a∈new)(m:Mv prog w h₁ (more P new) W' q r):Mv prog w h₁ P W p r:=
 Mv.outOf (Mv.trans (g.mvN (W':=W') R hn) m λ _ h _=>h) R.top (λ _ h=>.inl h) λ a h=>(hW a h).imp id λ hm=>(hn a hm).1
end
noncomputable def Cx.plus(X:Cx)(new:List Addr):Cx:={X with P:=more X.P new}
noncomputable def Cx.may(X:Cx)(own:List Addr):Cx:={X with W:=λ a=>a∈own}
theorem yb{p:Pt}(g:cu p q)(hn:dV p q new)(h:X.den p v d):(X.plus new).den q v d:=b8.mono h (g.cfg hn)
theorem hY(h:(X.plus new).den q v d):X.den q v d:=b8.mono h (dM λ _ h=>.inl h)
section
variable{X:Cx}{p:Pt}{v u:Value}{a b d:D}{k:Bool}{ds es:List D}
theorem nR{own:List Addr}(R:X.rep p){s':Shared}{S:Addr}{xs:Array Value}{c:Nat}(hk:∀b o,b∉own→p.s.heap.get? b=some o→s'.heap.get? b=some o)(hP:∀b∈own,X.P b)(hW:∀b∈own,X.W b)(hsz:p.s.heap.objs.size≤s'.heap.objs.size)(hg:s'.gens=p.s.gens)(hd:s'.drawn=p.s.drawn)(hos:s'.os=p.s.os)(hS:p.s.heap.objs.size≤S)(hL:IsL s'.heap S xs c)(hi:X.denL p xs.toList ds):
  X.mv p ⟨s',p.addρ (S,S),p.st.add (.list ds)⟩∧X.den ⟨s',p.addρ (S,S),p.st.add (.list ds)⟩ (.ref S) (.ob p.st.next):=by
 exact⟨dJ.addO (own:=own) (W:=X.W) (o:= .list ds) R hk hP hW hsz hg hd hos hS hS λ cc l e=>⟨_,c,rfl,by rw[e];exact hL,hi.mono l⟩,kX⟩
theorem p7(R:X.rep p){s':Shared}{S:Addr}{xs:Array Value}{c:Nat}(hk:∀b o,p.s.heap.get? b=some o→s'.heap.get? b=some o)(hsz:p.s.heap.objs.size≤s'.heap.objs.size)(hg:s'.gens=p.s.gens)(hd:s'.drawn=p.s.drawn)(hos:s'.os=p.s.os)(hS:p.s.heap.objs.size≤S)(hL:IsL s'.heap S xs c)(hi:X.denL p xs.toList ds):
  X.mv p ⟨s',p.addρ (S,S),p.st.add (.list ds)⟩∧X.den ⟨s',p.addρ (S,S),p.st.add (.list ds)⟩ (.ref S) (.ob p.st.next):=
 nR (own:=[]) R (λ b o _ h=>hk b o h) (λ _=>nofun) (λ _=>nofun) hsz hg hd hos hS hL hi
theorem q9(R:X.rep p)(hs:ed X p u ds)(hsz:ds.length≤sizeLine):GA X X.den p (call (.type "list") [u]) (.ob p.st.next) (p.st.add (.list ds)):=by
 intro Q E kQ
 have K {l:Addr} {T:String} {o:Obj} {xs:Array Value} {m:Nat} (hT:T= "list"∨T= "tuple") (ho:p.s.heap.get? l=some o) (hc:o.cls= .type T) (hd:o.data= .seq xs m) (hi:X.denL p xs.toList ds):wpAny X.m X.A (call (.type "list") [.ref l]) Q E p.s:=
  cj (call_list_seq l hT ho hc hd (λ h' c' hk hD hz=>
   have M:=p7 (s':={p.s with heap:=h'}) R hk hz rfl rfl rfl (aq _) hD hi
   kQ _ _ M.1 rfl M.2) (hi.size.symm▸hsz))
 induction hs using ed.casesOn with
 |list e ho hc hd hi=>exact e▸K (.inl rfl) ho hc hd hi
 |tuple e ho hc hd hi=>exact e▸K (.inr rfl) ho hc hd hi
end
end
section
variable{items:Array Value}{env:Env}{ns:cr}{fn:Bool}
section
variable{prog:Program}{w:World}{A:Around}{E:VS}{s:Shared}
theorem zx{it t:Addr}(hne:t≠it):∀(n i:Nat) (s:Shared) (Q:List Value→Shared→Prop),s.heap.IsListIter it t i→s.heap.IsList t items→i+n≤items.size→
  (∀h',h'.IsListIter it t (i+n)→Heap.SameBut it s.heap h'→Q ((items.toList.drop i).take n) {s with heap:=h'})→wpAny (model prog w) A (draw (.ref it) n) Q E s:=by
 intro n
 induction n with
 |zero=>
  intro i s Q hit ht hi hQ
  simp only[draw]
  have:=hQ s.heap hit (Heap.SameBut.refl ..)
  rw[List.take_zero]at this
  exact ak this
 |succ n ih=>
  intro i s Q hit ht hi hQ
  have hlt:i<items.size:=by omega
  simp only[draw]
  refine aa (wpAny_pyNext_list_item hit ht (x:=items[i]) (by simp[hlt]) λ h₁ hit₁ hs₁=>?_)
  refine aa (aV (ih (i+1) _ _ hit₁ (ht.extBut hs₁.extBut hne) (by omega) λ h₂ hit₂ hs₂=>ak ?_))
  have hd:items.toList.drop i=items[i]::items.toList.drop (i+1):=by
   rw[List.drop_eq_getElem_cons (by simpa using hlt)];simp
  have:=hQ h₂ (by rw[show i+(n+1)=i+1+n by omega];exact hit₂) (hs₁.trans hs₂)
  rw[hd,List.take_succ_cons]at this
  exact this
theorem lm{t:Addr}{Q:List Value→Shared→Prop}(hh:A.handled=none)(ht:s.heap.IsList t items)(hQ:∀h',Heap.ExtBut s.heap.objs.size s.heap h'→Q items.toList {s with heap:=h'}):wpAny (model prog w) A (unpackItems (.ref t) items.size none) Q E s:=by
 obtain⟨o,ho,hc,n,hd⟩:=id ht
 have hlt:t≠s.heap.objs.size:=aL (az ho)
 unfold unpackItems
 refine aa ?_
 ·unfold notIterableAtAll
  refine aa (wpAny_specialOf ht.typeIs slot_list_iter.lookup ?_)
  refine ak ?_
  simp only[Bool.false_eq_true,if_false]
  refine aa (aV (wpAny_pyIter_list ht ?_))
  have ht':(s.heap.push {cls:= .type "list_iterator",data:= .fields #[.ref t,.int 0 0]}).IsList t items:=⟨o,ah _ ho,hc,n,hd⟩
  refine aa (aV (zx hlt items.size 0 _ _ ⟨_,Heap.get?_push_size _ rfl,rfl,rfl⟩ ht' (by omega) λ h₁ hit₁ hs₁=>?_))
  have hall:List.take items.size (List.drop 0 items.toList)=items.toList:=by
   rw[List.drop_zero];exact List.take_of_length_le (by simp)
  rw[hall]
  rw[aI (by simp)]
  have ht₁:h₁.IsList t items:=ht'.extBut hs₁.extBut hlt
  refine aa (aV (wpAny_pyNext_list_end hh hit₁ ht₁ (by simp) λ h₂ he₂=>?_))
  simp only[Option.isSome_none,Bool.false_eq_true,if_false]
  refine ak (hQ h₂ λ b o hb e=>he₂ b o hb (hs₁.extBut b o hb (ah _ e)))
end
abbrev cr:=List (Str×NameKind)
noncomputable def cA(ns:cr)(x:Str):Option NameKind:=bD ns x
theorem fS{α:Type}(l:List (Str×α))(x:Str):bD l x=l.lookup x:=by
 induction l with
 |nil=>rfl
 |cons p r ih=>
  have e:(x==p.1)=c7 p.1 x:=(Bool.eq_iff_iff.mpr (by rw[beq_iff_eq,eV,decide_eq_true_iff];exact eq_comm))
  rw[List.lookup_cons,e,←ih]
  show cond (c7 p.1 x) _ _=_
  induction c7 p.1 x using Bool.casesOn<;>rfl
theorem cW(h:env.scope.names=ns)(x:Str):env.kindOf x=cA ns x:=by
 unfold Env.kindOf cA
 rw[h,fS]
noncomputable def uS(fn:Bool)(ns:cr)(x:Str):Bool:=match cA ns x with
 |some .local=>true
 |some .cell=>fn
 |_=>false
theorem wP{x:Str}(h:uS fn ns x=true):cA ns x=some .local∨(cA ns x=some .cell∧fn=true):=by
 revert h
 show(match cA ns x with|some .local=>true|some .cell=>fn|_=>false)=true→_
 induction cA ns x using Option.casesOn with
 |none=>exact ftK
 |some k=>induction k using NameKind.casesOn with
  |«local»=>exact λ _=>.inl rfl
  |cell=>exact λ h=>.inr ⟨rfl,h⟩
  |_=>exact ftK
noncomputable def kc(fn:Bool)(env:Env)(W:Addr→Prop):Prop:=W env.locals∧(fn=true→∀n c,(n,c)∈env.cells→env.kindOf n=some .cell→W c)
theorem uR{W:Addr→Prop}(hns:env.scope.names=ns)(hW:kc fn env W){x:Str}(h:uS fn ns x=true):(env.kindOf x=some .local∧W env.locals)∨(env.kindOf x=some .cell∧∀c,(x,c)∈env.cells→W c):=by
 have:=wP h
 rw[←cW hns]at this
 exact this.imp (⟨·,hW.1⟩) λ h=>⟨h.1,λ c hc=>hW.2 h.2 x c hc h.1⟩
noncomputable def Lm(f:Expr→D→Loc→Option Loc):List Expr→List D→Loc→Option Loc
 |[],ds,loc=>(match ds with
  |[]=>some loc
  |_=>none)
 |e::es,ds,loc=>(match ds with
  |d::ds=>cond (eR e) none ((f e d loc).bind λ loc'=>Lm f es ds loc')
  |[]=>none)
noncomputable def AN:D→Option (List D)
 | .tup ds=>some ds
 | .lst ds=>some ds
 |_=>none
noncomputable def Ln(fn:Bool)(ns:cr)(g:List Expr→List D→Loc→Option Loc)(e:Expr)(d:D)(loc:Loc):Option Loc:=match e with
 | .Name x _=>cond (uS fn ns x) (some (iB loc x d)) none
 | .Tuple es _ _=>(AN d).bind λ ds=>g es ds loc
 |_=>none
noncomputable def gC(fn:Bool)(ns:cr):Nat→Expr→D→Loc→Option Loc
 |0=>Ln fn ns λ _ _ _=>none
 |n+1=>Ln fn ns (Lm (gC fn ns n))
theorem cU{e:Expr}{r:List Expr}:eR e=false→assignEach (e::r) env=(false,assign e env)::assignEach r env:=by
 induction e using Expr.casesOn with
 |Starred=>exact nofun
 |_=>exact λ _=>rfl
section
variable{X:Cx}{env:Env}{ns:cr}{fn:Bool}
noncomputable def AS(X:Cx)(env:Env)(loc:Loc)(p:Pt)(t:Sem Unit)(loc':Loc):Prop:=GA X (λ q _ _=>ax X q env loc') p t () p.st
inductive Qo(X:Cx)(env:Env)(loc:Loc)(es:List Expr)(ds:List D)(loc':Loc):Prop
 |mk (len:(assignEach es env).length=ds.length) (star:(assignEach es env).findIdx? (·.1)=none) (go:∀(p:Pt) (vs:List Value),X.rep p→ax X p env loc→X.denL p vs ds→AS X env loc p (assignInOrder ((assignEach es env).map (·.2)) vs) loc')
theorem wd{f:Expr→D→Loc→Option Loc}(ok:X.ok)(hf:∀(e:Expr) (d:D) (loc:Loc),b6 (λ loc'=>∀(p:Pt) (v:Value),X.rep p→ax X p env loc→X.den p v d→AS X env loc p (assign e env v) loc') (f e d loc))(es:List Expr):
  ∀(ds:List D) (loc:Loc),b6 (Qo X env loc es ds) (Lm f es ds loc):=by
 induction es with
 |nil=>
  intro ds loc
  induction ds using List.casesOn with
  |nil=>exact⟨rfl,rfl,λ p vs R F hv=>by cases hv;exact λ Q E k=>ak (k () p (Mv.refl R) rfl F)⟩
  |cons=>exact ag
 |cons e es ih=>
  intro ds loc
  induction ds using List.casesOn with
  |nil=>exact ag
  |cons d ds=>
   refine .condN λ hs=>.bind ((hf e d loc).mono λ l2 h2=>(ih ds l2).mono λ l3 h3=>?_)
   obtain⟨len,star,go⟩:=h3
   refine⟨by rw[cU hs];exact ae (·+1) len,by rw[cU hs,List.findIdx?_cons,star];rfl,λ p vs R F hv=>?_⟩
   induction hv using denL_cons with
   | @cons v vs h1 hr=>
    rw[cU hs]
    intro Q E k
    show wpAny _ _ (do holding (v::vs).tail (assign e env v);assignInOrder ((assignEach es env).map (·.2)) vs) Q E p.s
    exact aa (aV (h2 p v R F h1 _ _ λ _ q m e1 F'=>go q vs m.rep F' (fY m ok hr) Q E λ _ r m' e2 F''=>k () r (Mv.trans m m' λ _ h _=>h) (e2.trans e1) F''))
theorem qn{p:Pt}{h':Heap}(R:X.rep p)(he:Heap.ExtBut p.s.heap.objs.size p.s.heap h')(hsz:p.s.heap.objs.size≤h'.objs.size):cu p ⟨{p.s with heap:=h'},p.ρ,p.st⟩:=
 ⟨λ b o hb=>he b o (aL (az hb)) hb,hsz,rfl,rfl,rfl,rfl,rfl⟩
theorem oQ(ok:X.ok)(hh:X.A.handled=none)(hns:env.scope.names=ns)(hW:kc fn env X.W){g:List Expr→List D→Loc→Option Loc}(hg:∀es ds loc,b6 (Qo X env loc es ds) (g es ds loc))(e:Expr)(d:D)(loc:Loc):
  b6 (λ loc'=>∀(p:Pt) (v:Value),X.rep p→ax X p env loc→X.den p v d→AS X env loc p (assign e env v) loc') (Ln fn ns g e d loc):=by
 induction e using Expr.casesOn with
 |Name x pos=>exact .cond λ hb p v R F hv Q E k=>wpAny_assign_Name (iI F R ok (uR hns hW hb) hv Q E k)
 |Tuple es kk pos=>
  have K {ds:List D} {loc':Loc} (fc:Qo X env loc es ds loc') (p:Pt) {a:Addr} {xs:Array Value} (R:X.rep p) (F:ax X p env loc) (hi:X.denL p xs.toList ds) (hu:∀Q E,(∀h',Heap.ExtBut p.s.heap.objs.size p.s.heap h'→Q xs.toList {p.s with heap:=h'})→wpAny X.m X.A (unpackItems (.ref a) xs.size none) Q E p.s):AS X env loc p (assign (.Tuple es kk pos) env (.ref a)) loc':=by
   obtain⟨len,star,go⟩:=fc
   intro Q E k
   rw[arm_assign_Tuple]
   refine aa (aX ?_)
   unfold unpack
   rw[len,star,←hi.size]
   refine aa (aV (cj (hu _ _ λ h2 he hsz=>?_)))
   have g:=qn R he hsz
   have M:X.mv p ⟨{p.s with heap:=h2},p.ρ,p.st⟩:=g.mv0 R
   exact go _ xs.toList M.rep (F.keepE (g.mv0 R) R) (fY M ok hi) Q E λ _ r m' e2 F'=>k () r (Mv.trans M m' λ _ h _=>h) e2 F'
  induction d using D.casesOn with
  |tup ds=>
   refine(hg es ds loc).mono λ loc' fc p v R F hv=>?_
   induction hv using denI_tup with
   |tup ho hc hd hu hi=>exact K fc p R F hi λ Q E h=>unpackItems_tuple hh ⟨_,ho,hc,_,hd⟩ h
  |lst ds=>
   refine(hg es ds loc).mono λ loc' fc p v R F hv=>?_
   induction hv using denI_lst with
   |lst ho hc hd hu hi=>exact K fc p R F hi λ Q E h=>lm hh ⟨_,ho,hc,_,hd⟩ h
  |_=>exact ag
 |_=>exact ag
theorem HG(ok:X.ok)(hh:X.A.handled=none)(hns:env.scope.names=ns)(hW:kc fn env X.W)(n:Nat):∀(e:Expr) (d:D) (loc:Loc),
  b6 (λ loc'=>∀(p:Pt) (v:Value),X.rep p→ax X p env loc→X.den p v d→AS X env loc p (assign e env v) loc') (gC fn ns n e d loc):=by
 induction n with
 |zero=>exact oQ ok hh hns hW λ _ _ _=>ag
 |succ n ih=>exact oQ ok hh hns hW (wd ok ih)
theorem fZ(ok:X.ok)(hh:X.A.handled=none)(hns:env.scope.names=ns)(hW:kc fn env X.W)(n:Nat)(e:Expr)(d:D)(loc loc':Loc)(p:Pt)(v:Value)(h:gC fn ns n e d loc=some loc')(R:X.rep p)(F:ax X p env loc)(hv:X.den p v d):
  GA X (λ q _ _=>ax X q env loc') p (assign e env v) () p.st:=aT (P:=λ loc'=>∀(p:Pt) (v:Value),X.rep p→ax X p env loc→X.den p v d→AS X env loc p (assign e env v) loc') (HG ok hh hns hW n e d loc) h p v R F hv
end
end
section
variable{st:St}{b:Bool}{f:aD}{α:Type}{q:Pt}{loc:Loc}{new:List Addr}
inductive aD where
 |val (d:D) (st:St)
 |no
 |node (o:Option (D×St)) (k:D→St→aD)
noncomputable def af:aD→aD
 | .val d st=>.val d st
 | .no=>.no
 | .node o k=>match o with
  |some r=>af (k r.1 r.2)
  |none=>.no
noncomputable def gH(o:Option D)(st:St)(k:D→St→aD):aD:= .node (match o with
 |some d=>some (d,st)
 |none=>none) k
noncomputable def mc(o:Option Bool)(st:St)(k:Bool→St→aD):aD:= .node (match o with
 |some b=>some (.bool b,st)
 |none=>none) λ d st=>match d with
  | .bool b=>k b st
  |_=>.no
noncomputable def BC(o:Option (List D))(st:St)(k:List D→St→aD):aD:= .node (match o with
 |some ds=>some (.lst ds,st)
 |none=>none) λ d st=>match d with
  | .lst ds=>k ds st
  |_=>.no
noncomputable def wc(b:Bool)(st:St)(k:St→aD):aD:= .node (match b with
 |true=>some (.none,st)
 |false=>none) λ _ st=>k st
noncomputable def wV(o:Option St)(k:St→aD):aD:= .node (match o with
 |some st=>some (.none,st)
 |none=>none) λ _ st=>k st
theorem aD.valI{d d':D}{st':St}(h:aD.val d st= .val d' st'):d=d'∧st=st':=by cases(h);exact⟨rfl,rfl⟩
section
variable{out:aD}
theorem kp{o:Option (D×St)}{k:D→St→aD}(h:af (.node o k)=out)(ho:out≠.no):∃r,o=some r∧af (k r.1 r.2)=out:=by
 induction o using Option.casesOn with
 |none=>exact absurd h.symm ho
 |some r=>exact⟨r,rfl,h⟩
theorem nL{o:Option D}{k:D→St→aD}(h:af (gH o st k)=out)(ho:out≠.no):∃d,o=some d∧af (k d st)=out:=by
 induction o using Option.casesOn with
 |none=>exact absurd h.symm ho
 |some r=>exact⟨r,rfl,h⟩
theorem iL{o:Option Bool}{k:Bool→St→aD}(h:af (mc o st k)=out)(ho:out≠.no):∃d,o=some d∧af (k d st)=out:=by
 induction o using Option.casesOn with
 |none=>exact absurd h.symm ho
 |some r=>exact⟨r,rfl,h⟩
theorem BA{o:Option (List D)}{k:List D→St→aD}(h:af (BC o st k)=out)(ho:out≠.no):∃d,o=some d∧af (k d st)=out:=by
 induction o using Option.casesOn with
 |none=>exact absurd h.symm ho
 |some r=>exact⟨r,rfl,h⟩
theorem ni{k:St→aD}(h:af (wc b st k)=out)(ho:out≠.no):b=true∧af (k st)=out:=by
 induction b using Bool.casesOn with
 |false=>exact absurd h.symm ho
 |true=>exact⟨rfl,h⟩
theorem sE{o:Option St}{k:St→aD}(h:af (wV o k)=out)(ho:out≠.no):∃st,o=some st∧af (k st)=out:=by
 induction o using Option.casesOn with
 |none=>exact absurd h.symm ho
 |some r=>exact⟨r,rfl,h⟩
theorem ce(h:af (cond b f .no)=out)(ho:out≠.no):b=true∧af f=out:=by
 induction b using Bool.casesOn with
 |false=>exact absurd h.symm ho
 |true=>exact⟨rfl,h⟩
theorem cY(h:af (cond b .no f)=out)(ho:out≠.no):b=false∧af f=out:=by
 induction b using Bool.casesOn with
 |true=>exact absurd h.symm ho
 |false=>exact⟨rfl,h⟩
noncomputable def cS(o:Option α)(f:α→aD):aD:=o.casesOn .no f
theorem bX{o:Option α}{f:α→aD}(h:af (cS o f)=out)(ho:out≠.no):∃a,o=some a∧af (f a)=out:=by
 induction o using Option.casesOn with
 |none=>exact absurd h.symm ho
 |some r=>exact⟨r,rfl,h⟩
end
noncomputable def SE(X:Cx)(p:Pt)(t:Sem Value)(c:(D→St→aD)→aD):Prop:=
 ∀k out,af (c k)=out→out≠.no→∀(Q:VS) (E:VS),(∀v q d st,X.mv p q→q.st=st→X.den q v d→af (k d st)=out→Q v q.s)→wpAny X.m X.A t Q E p.s
noncomputable def SS(X:Cx)(env:Env)(p:Pt)(t:Sem Flow)(c:(Loc→St→aD)→aD):Prop:=
 ∀k out,af (c k)=out→out≠.no→∀(Q:Flow→Shared→Prop) (E:VS),(∀q loc st,X.mv p q→q.st=st→ax X q env loc→af (k loc st)=out→Q .next q.s)→
  (∀v q d st,X.mv p q→q.st=st→X.den q v d→out= .val d st→Q (.ret v) q.s)→wpAny X.m X.A t Q E p.s
noncomputable def eB{S:Type}(asgf:D→S→Option S)(body:S→St→(S→St→aD)→aD):List D→S→St→(S→St→aD)→aD
 |[],loc,st,k=>k loc st
 |d::ds,loc,st,k=>cS (asgf d loc) λ loc'=>body loc' st λ loc'' st'=>eB asgf body ds loc'' st' k
theorem ax.plus{X:Cx}{p:Pt}{env:Env}(F:ax X p env loc)(g:cu p q)(hn:dV p q new):ax (X.plus new) q env loc:=
 F.mv (λ _ _=>yb g hn) (λ _ h=>h.elim λ _ h=>h.elim λ _ h=>h.elim λ _ h=>⟨_,_,_,g.keep _ _ h.1,h.2⟩) (λ _ _ _ _ h=>h.elim λ _ h=>⟨_,g.keep _ _ h.1,h.2⟩) (.inl F.pL) λ n c h=>.inl (F.pC n c h)
theorem ax.unplus{X:Cx}{env:Env}(F:ax (X.plus new) q env loc)(hL:X.P env.locals)(hC:∀n c,(n,c)∈env.cells→X.P c):ax X q env loc:=
 F.mv (λ _ _=>hY) (λ _ h=>h) (λ _ _ _ _ h=>h) hL hC
structure xA(X:Cx)(env:Env)(its lk:List Addr):Prop where
 all:∀b∈its++lk,X.P b∧¬X.W b∧b≠X.h₁.objs.size
 fL:env.locals∉its
 fC:∀n c,(n,c)∈env.cells→c∉its
theorem xA.ok{X:Cx}{env:Env}{its lk:List Addr}(O:xA X env its lk):(Cx.may X its).ok:=λ a h=>(O.all a (List.mem_append_left _ h)).1
theorem xA.env{X:Cx}{env:Env}{its lk:List Addr}(O:xA X env its lk){q q':Pt}{loc:Loc}(R:X.rep q)(m:(Cx.may X its).mv q q')(F:ax X q env loc):ax X q' env loc:=F.keep m R O.ok O.fL O.fC
section
variable{S:Type}(X:Cx)(its lk:List Addr)(I:Addr)(tp:Bool)(q₀:Pt)(J:Pt→S→Prop)(fc:List D→S→St→aD)(out:aD)
inductive HO(n:Nat)(s:Shared):Prop
 |mk (ds:List D) (z:S) (q:Pt) (e:n=ds.length) (es:q.s=s) (M:Mv X.prog X.w X.h₁ X.P (more X.W its) q₀ q) (j:J q z) (It:ct X.prog X.w X.A (q.cfg X.P) I (its++lk) its tp ds) (hc:af (fc ds z q.st)=out)
end
section
variable{S:Type}{X:Cx}{env:Env}{its lk:List Addr}{I:Addr}{tp:Bool}{q₀:Pt}{J:Pt→S→Prop}{asgf:D→S→Option S}{bodyC:S→St→(S→St→aD)→aD}{k:S→St→aD}{out:aD}{target:Expr}
theorem p9(ok:X.ok)(O:xA X env its lk)(ht:tp=true→dT target=true)(ho:out≠.no)(hJ:∀q q' z,X.rep q→(Cx.may X its).mv q q'→J q z→J q' z){P:Option Value→Shared→Prop}{B:VS}{E:VS}{n:Nat}{s:Shared}(L:HO X its lk I tp q₀ J (λ ds z st=>eB asgf bodyC ds z st k) out n s)(kN:∀q z,Mv X.prog X.w X.h₁ X.P (more X.W its) q₀ q→J q z→af (k z q.st)=out→P none q.s)(hP:∀v s₁,wpAny X.m X.A (letOwnedTupleGo target (.ref I) v) (λ _ s₂=>B v s₂) E s₁→P (some v) s₁)(kB:∀v d z z' q k',Mv X.prog X.w X.h₁ X.P (more X.W its) q₀ q→J q z→X.den q v d→asgf d z=some z'→af (bodyC z' q.st k')=out→
   (∀q' z',X.mv q q'→J q' z'→af (k' z' q'.st)=out→∃m,m<n∧HO X its lk I tp q₀ J (λ ds z st=>eB asgf bodyC ds z st k) out m q'.s)→B v q.s):wpAny X.m X.A (pyNext (.ref I)) P E s:=by
 obtain⟨ds,z,q,rfl,rfl,M,j,It,hc⟩:=L
 have Rq:X.rep q:=M.rep
 have tr {q'} (m:(Cx.may X its).mv q q'):Mv X.prog X.w X.h₁ X.P (more X.W its) q₀ q':=Mv.trans M m λ a h _=>.inr h
 have hPo b hb:=(O.all b hb).1
 induction ds using List.casesOn with
 |nil=>exact s7 (X:=Cx.may X its) Rq O.ok It hPo (λ b hb=>hb) λ q' m e=>kN q' z (tr m) (hJ q q' z Rq m j) (e▸hc)
 |cons d ds=>
  obtain⟨z',ha,hc⟩:=bX hc ho
  refine bW (qg (X:=Cx.may X its) (target:=target) (Q:=B) Rq O.ok It hPo (λ b hb=>hb) ht λ v q1 m1 e1 hv It1=>?_) (λ r s₁ h=>h.elim λ v h=>h.1▸hP v s₁ h.2) λ _ _ h=>h
  refine kB v d z z' q1 _ (tr m1) (hJ q q1 z Rq m1 j) hv ha (e1▸hc) λ q2 z2 m2 j2 hc2=>⟨_,Nat.lt_succ_self _,ds,z2,q2,rfl,rfl,Mv.trans (tr m1) m2 λ a h _=>.inl h,j2,It1.keep m1.rep m2 ok hPo (λ b hb=>(O.all b hb).2.1) (λ b hb=>(O.all b hb).2.2),hc2⟩
end
section
variable{X:Cx}{env:Env}
theorem jO(ok:X.ok){target:Expr}{body:List Stmt}{asgf:D→Loc→Option Loc}{bodyC:Loc→St→(Loc→St→aD)→aD}{q₀:Pt}{I:Addr}{its lk:List Addr}{tp:Bool}(R:X.rep q₀)(O:xA X env its lk)(ht:tp=true→dT target=true)(ha:∀(d:D) (loc loc':Loc) (q:Pt) (v:Value),asgf d loc=some loc'→X.rep q→ax X q env loc→X.den q v d→GA X (λ q _ _=>ax X q env loc') q (assign target env v) () q.st)(hb:∀(loc:Loc) (q:Pt),X.rep q→ax X q env loc→SS X env q (execs body env) (bodyC loc q.st)){ds:List D}{loc:Loc}(F:ax X q₀ env loc)(It:ct X.prog X.w X.A (q₀.cfg X.P) I (its++lk) its tp ds){k:Loc→St→aD}{out:aD}(hc:af (eB asgf bodyC ds loc q₀.st k)=out)(ho:out≠.no){Rs:Result→Shared→Prop}(kN:∀q loc st,Mv X.prog X.w X.h₁ X.P (more X.W its) q₀ q→q.st=st→ax X q env loc→af (k loc st)=out→Rs (.ok .next) q.s)(kR:∀v q d st,Mv X.prog X.w X.h₁ X.P (more X.W its) q₀ q→q.st=st→X.den q v d→out= .val d st→Rs (.ok (.ret v)) q.s):
  codeAny X.m X.A (.forLoop target (.ref I) body [] env) Rs q₀.s:=
 codeAny_forLoop_any (HO X its lk I tp q₀ (λ q=>ax X q env) (λ ds z st=>eB asgf bodyC ds z st k) out) (λ n s L=>
  p9 (J:=λ q=>ax X q env) ok O ht ho (λ _ _ _=>O.env) L (λ q loc M F hc=>wpAny_execs_nil (kN q loc _ M rfl F hc)) (λ _ _ h=>h) λ v d loc loc' q k' M F hv ha' hc next=>
   ha d loc loc' q v ha' M.rep F hv _ _ λ _ q2 m2 e2 F2=>
    hb loc' q2 m2.rep F2 k' out (e2.symm▸hc) ho _ _ (λ q3 loc3 st3 m3 e3 F3 hk3=>next q3 loc3 (Mv.trans m2 m3 λ _ h _=>h) F3 (e3.symm▸hk3))
     λ v q3 d3 st3 m3 e3 hv3 hout=>kR v q3 d3 st3 (Mv.trans M (Mv.trans (W':=X.W) m2 m3 λ _ h _=>h) λ a h _=>.inl h) e3 hv3 hout) ds.length ⟨ds,loc,q₀,rfl,rfl,Mv.refl R,F,It,hc⟩
end
end
section
variable{x:D}{f:List D→aD}
section
variable{α:Type}{G:Prop}{out:aD}
theorem outO{x:Option α}{f:α→aD}(ho:out≠.no)(k:∀a,x=some a→af (f a)=out→G):af (match(generalizing:=false) x with|some a=>f a|none=>.no)=out→G:=by
 induction x using Option.casesOn with
 |none=>exact λ h=>absurd h.symm ho
 |some a=>exact k a rfl
theorem outB{x:Bool}{f:aD}(ho:out≠.no)(k:x=true→af f=out→G):af (match(generalizing:=false) x with|true=>f|false=>.no)=out→G:=by
 induction x using Bool.casesOn with
 |false=>exact λ h=>absurd h.symm ho
 |true=>exact k rfl
theorem outB0{x:Bool}{f:aD}(ho:out≠.no)(k:x=false→af f=out→G):af (match(generalizing:=false) x with|true=>.no|false=>f)=out→G:=by
 induction x using Bool.casesOn with
 |true=>exact λ h=>absurd h.symm ho
 |false=>exact k rfl
theorem outRef{x:Value}{f:Addr→aD}(ho:out≠.no)(k:∀a,x= .ref a→af (f a)=out→G):af (match(generalizing:=false) x with| .ref a=>f a|_=>.no)=out→G:=by
 induction x using Value.casesOn<;>first|exact k _ rfl|exact λ h=>absurd h.symm ho
theorem outInt{f:Int→aD}(ho:out≠.no)(k:∀a,x= .int a→af (f a)=out→G):af (match(generalizing:=false) x with| .int a=>f a|_=>.no)=out→G:=by
 induction x using D.casesOn<;>first|exact k _ rfl|exact λ h=>absurd h.symm ho
theorem outStr{f:Str→aD}(ho:out≠.no)(k:∀a,x= .str a→af (f a)=out→G):af (match(generalizing:=false) x with| .str a=>f a|_=>.no)=out→G:=by
 induction x using D.casesOn<;>first|exact k _ rfl|exact λ h=>absurd h.symm ho
theorem outBool{f:Bool→aD}(ho:out≠.no)(k:∀a,x= .bool a→af (f a)=out→G):af (match(generalizing:=false) x with| .bool a=>f a|_=>.no)=out→G:=by
 induction x using D.casesOn<;>first|exact k _ rfl|exact λ h=>absurd h.symm ho
theorem outLst(ho:out≠.no)(k:∀a,x= .lst a→af (f a)=out→G):af (match(generalizing:=false) x with| .lst a=>f a|_=>.no)=out→G:=by
 induction x using D.casesOn<;>first|exact k _ rfl|exact λ h=>absurd h.symm ho
theorem outTup(ho:out≠.no)(k:∀a,x= .tup a→af (f a)=out→G):af (match(generalizing:=false) x with| .tup a=>f a|_=>.no)=out→G:=by
 induction x using D.casesOn<;>first|exact k _ rfl|exact λ h=>absurd h.symm ho
theorem outOb{f:Nat→aD}(ho:out≠.no)(k:∀a,x= .ob a→af (f a)=out→G):af (match(generalizing:=false) x with| .ob a=>f a|_=>.no)=out→G:=by
 induction x using D.casesOn<;>first|exact k _ rfl|exact λ h=>absurd h.symm ho
theorem outVal{f:Value→aD}(ho:out≠.no)(k:∀a,x= .val a→af (f a)=out→G):af (match(generalizing:=false) x with| .val a=>f a|_=>.no)=out→G:=by
 induction x using D.casesOn<;>first|exact k _ rfl|exact λ h=>absurd h.symm ho
end
end
section
variable{elt:Expr}{acc:List D}{gens:List Comprehension}{depth:Nat}{env:Env}{X:Cx}{q:Pt}{D':Addr}{new:List Addr}
end
local macro_rules | `(tactic| split at $h:ident $_g:ident) => `(tactic| (revert $h:ident; (set_option smartUnfolding false in first | refine outO (by assumption) fun _ e $h => ?_ | refine outB (by assumption) fun e $h => ?_ | refine outInt (by assumption) fun _ e $h => ?_ | refine outStr (by assumption) fun _ e $h => ?_ | refine outBool (by assumption) fun _ e $h => ?_ | refine outLst (by assumption) fun _ e $h => ?_ | refine outTup (by assumption) fun _ e $h => ?_ | refine outOb (by assumption) fun _ e $h => ?_ | refine outVal (by assumption) fun _ e $h => ?_ | refine outRef (by assumption) fun _ e $h => ?_ | refine outB0 (by assumption) fun e $h => ?_); try subst e))
section
variable{elt:Expr}{acc:List D}{gens:List Comprehension}{depth:Nat}{env:Env}{X:Cx}{q:Pt}{D':Addr}{new:List Addr}
noncomputable def i7(ifs:List Expr)(env:Env):Sem Bool:=forIn ifs true λ c r=>if r=true then do let ok←isTrue c env (eval c env);pure (ForInStep.yield ok)else pure (ForInStep.yield r)
noncomputable def oK(target iter:Expr)(ifs:List Expr)(yes:Sem Fin)(again':Sem Fin)(it:Value)(env:Env):Sem Fin:=do
 standAt iter.pos
 match←pyNext it with
 |none=>pure (.done .next)
 |some v=>
  letOwnedTupleGo target it v
  assign target env v
  let ok←i7 ifs env
  if ok then yes else again'
noncomputable def xG(elt:Expr)(acc:Value)(env:Env)(again':Sem Fin):Sem Fin:=do
 (do let _←call (.builtin "list.append") [acc,←eval elt env])
 again'
noncomputable def Ep(e iter':Expr)(acc:Value)(env:Env)(again':Sem Fin):Sem Fin:=do
 let x←eval iter' env
 standAt iter'.pos
 let x←foldedSetIterable iter' env x
 let _←runOwn (.compStart e 1 (←holding [x] (pyIter x)) acc env) env
 again'
theorem kY(elt target iter:Expr)(ifs:List Expr)(scope:Scope)(pos:Pos)(it acc:Value)(env:Env):
  compTurn (.ListComp elt [⟨target,iter,ifs,0⟩] scope pos) 0 it acc env=oK target iter ifs (xG elt acc env (again (.compLoop (.ListComp elt [⟨target,iter,ifs,0⟩] scope pos) 0 it acc env))) (again (.compLoop (.ListComp elt [⟨target,iter,ifs,0⟩] scope pos) 0 it acc env)) it env:=by rfl
theorem pG(elt target iter target' iter':Expr)(ifs ifs':List Expr)(scope:Scope)(pos:Pos)(it acc:Value)(env:Env):
  compTurn (.ListComp elt [⟨target,iter,ifs,0⟩,⟨target',iter',ifs',0⟩] scope pos) 0 it acc env=oK target iter ifs (Ep (.ListComp elt [⟨target,iter,ifs,0⟩,⟨target',iter',ifs',0⟩] scope pos) iter' acc env (again (.compLoop (.ListComp elt [⟨target,iter,ifs,0⟩,⟨target',iter',ifs',0⟩] scope pos) 0 it acc env))) (again (.compLoop (.ListComp elt [⟨target,iter,ifs,0⟩,⟨target',iter',ifs',0⟩] scope pos) 0 it acc env)) it env:=by rfl
theorem pF(elt target iter target' iter':Expr)(ifs ifs':List Expr)(scope:Scope)(pos:Pos)(it acc:Value)(env:Env):
  compTurn (.ListComp elt [⟨target,iter,ifs,0⟩,⟨target',iter',ifs',0⟩] scope pos) 1 it acc env=oK target' iter' ifs' (xG elt acc env (again (.compLoop (.ListComp elt [⟨target,iter,ifs,0⟩,⟨target',iter',ifs',0⟩] scope pos) 1 it acc env))) (again (.compLoop (.ListComp elt [⟨target,iter,ifs,0⟩,⟨target',iter',ifs',0⟩] scope pos) 1 it acc env)) it env:=by rfl
section
variable{prog:Program}{w:World}{A:Around}{E:VS}{R:Result→Shared→Prop}{s:Shared}
theorem rF{scope:Scope}{pos:Pos}{target iter:Expr}{ifs:List Expr}{yes:Sem Fin→Sem Fin}{it acc:Value}(ht:compTurn (.ListComp elt gens scope pos) depth it acc env=oK target iter ifs (yes (again (.compLoop (.ListComp elt gens scope pos) depth it acc env))) (again (.compLoop (.ListComp elt gens scope pos) depth it acc env)) it env)(I:Nat→Shared→Prop)(turn:∀n s,I n s→wpAny (model prog w) A (pyNext it) (λ r s₁=>match r with
   |none=>R (.ok .next) s₁
   |some v=>wpAny (model prog w) A (letOwnedTupleGo target it v) (λ _ s₂=>wpAny (model prog w) A (assign target env v) (λ _ s₃=>
     wpAny (model prog w) A (i7 ifs env) (λ ok s₄=>if ok=true then wpAny (model prog w) A (yes (again (.compLoop (.ListComp elt gens scope pos) depth it acc env))) (λ fin s₅=>fin= .again (.compLoop (.ListComp elt gens scope pos) depth it acc env)∧∃m,m<n∧I m s₅) (notedBy (model prog w) A env λ e s'=>R (.error e) s') s₄
      else wpAny (model prog w) A (again (.compLoop (.ListComp elt gens scope pos) depth it acc env)) (λ fin s₅=>fin= .again (.compLoop (.ListComp elt gens scope pos) depth it acc env)∧∃m,m<n∧I m s₅) (notedBy (model prog w) A env λ e s'=>R (.error e) s') s₄)
      (notedBy (model prog w) A env λ e s'=>R (.error e) s') s₃) (notedBy (model prog w) A env λ e s'=>R (.error e) s') s₂) (notedBy (model prog w) A env λ e s'=>R (.error e) s') s₁) (notedBy (model prog w) A env λ e s'=>R (.error e) s') s) (n:Nat) (h:I n s):codeAny (model prog w) A (.compLoop (.ListComp elt gens scope pos) depth it acc env) R s:=by
 refine codeAny_loop rfl I (λ n s hI=>?_) n h
 show wpAny _ A ((compTurn (.ListComp elt gens scope pos) depth it acc env).onRaise (λ x=>do noteFrame x env;theTreesLotGoes x)) _ _ s
 refine wpAny_noted ?_
 rw[ht]
 unfold oK
 refine aa (aX (aa (bW (turn n s hI) (λ r s₁ h₁=>?_) λ _ _ h'=>h')))
 induction r using Option.casesOn with
 |none=>exact ak h₁
 |some v=>
  refine aa (bW h₁ (λ _ s₂ h₂=>aa (bW h₂ (λ _ s₃ h₃=>aa (bW h₃ (λ ok s₄ h₄=>?_) λ _ _ h'=>h')) λ _ _ h'=>h')) λ _ _ h'=>h')
  induction ok using Bool.casesOn<;>exact bW h₄ (λ fin s₅ h₅=>h₅.1▸⟨rfl,h₅.2⟩) λ _ _ h'=>h'
theorem jQ{scope:Scope}{pos:Pos}{it acc:Value}{g:Comprehension}(hg:gens[depth]?=some g)(ha:g.is_async=0)(h0:codeAny (model prog w) A (.compLoop (.ListComp elt gens scope pos) depth it acc env) R s)(h:wpAny (model prog w) A (pyIter it) (λ it' s'=>codeAny (model prog w) A (.compLoop (.ListComp elt gens scope pos) depth it' acc env) R s')
   (notedBy (model prog w) A env λ x s'=>R (.error x) s') s):
  codeAny (model prog w) A (.compStart (.ListComp elt gens scope pos) depth it acc env) R s:=by
 refine codeAny_of_tree ?_
 show wpAny _ _ ((compStart (.ListComp elt gens scope pos) depth it acc env).onRaise (λ x=>do noteFrame x env;standAt theWindowsPlace)) _ _ s
 refine wpAny_notedAt ?_
 have e:compStart (.ListComp elt gens scope pos) depth it acc env=(do
   if(←ask).params.followText "comprehension-iter-twice"then return←again (.compLoop (.ListComp elt gens scope pos) depth it acc env)
   rule "comprehension.iter-twice"
   standAt g.iter.pos
   again (.compLoop (.ListComp elt gens scope pos) depth (←pyIter it) acc env)):=by
  unfold compStart
  simp only[show clausesOf (.ListComp elt gens scope pos)=gens from rfl,hg,Option.elim,ha]
  rfl
 rw[e]
 show wpAny _ _ (ask>>=_) _ _ s
 refine aa (wpAny_askSetting (wpAny_ite ?_))
 split
 ·first
   |exact aa (ak (ak (And.intro rfl h0)))
   |exact ak (And.intro rfl h0)
 ·first
   |exact aa (wpAny_rule (aa (aX (aa (bW h (λ it' s' h'=>ak (And.intro rfl h')) λ _ _ x=>x)))))
   |(refine aa (wpAny_rule ?_);show wpAny _ _ (standAt g.iter.pos>>=_) _ _ s;exact aa (aX (aa (bW h (λ it' s' h'=>ak (And.intro rfl h')) λ _ _ x=>x))))
end
theorem qh{c:dW}{I:Addr}{own wo:List Addr}{tp:Bool}{ds:List D}(It:ct X.prog X.w X.A c I own wo tp ds){Q:VS}{E:VS}{s:Shared}(hs:s.heap=c.h)(h:Q (.ref I) s):wpAny X.m X.A (pyIter (.ref I)) Q E s:=by
 induction tp using Bool.casesOn with
 |false=>obtain⟨W,hst,_⟩:jt .. :=It;exact W.self _ s Q E (hs▸hst) h
 |true=>obtain⟨W,hst,_⟩:j8 .. :=It;exact W.self _ s Q E (hs▸hst) h
inductive cP(X:Cx)(q:Pt)(D':Addr)(acc:List D):Prop
 |mk (nd:D'≠X.h₁.objs.size) (xs:Array Value) (n:Nat) (hl:IsL q.s.heap D' xs n) (hi:X.denL q xs.toList acc)
theorem cP.plus{p:Pt}(a:cP X p D' acc)(g:cu p q)(hn:dV p q new):cP (X.plus new) q D' acc:=by
 obtain⟨nd,xs,n,hl,hi⟩:=a
 exact⟨nd,xs,n,g.keep _ _ hl,bH.mono hi (g.cfg hn)⟩
theorem cP.unplus(a:cP (X.plus new) q D' acc):cP X q D' acc:=by
 obtain⟨nd,xs,n,hl,hi⟩:=a
 exact⟨nd,xs,n,hl,bH.mono hi (dM λ _ h=>.inl h)⟩
theorem cP.keep{p:Pt}{W:Addr→Prop}(a:cP X p D' acc)(R:X.rep p)(m:Mv X.prog X.w X.h₁ X.P W p q)(hW:∀a,W a→X.P a)(hD:X.P D')(h:¬W D'):cP X q D' acc:=by
 obtain⟨nd,xs,n,hl,hi⟩:=a
 exact⟨nd,xs,n,m.sameX hl (λ f=>R.footNot f hD) h nd,bH.mono hi (m.le hW)⟩
section
variable{X:Cx}{env:Env}
abbrev CJ(X:Cx)(env:Env)(D':Addr)(q:Pt)(S:Loc×List D):Prop:=ax X q env S.1∧cP X q D' S.2
theorem iY(ok:X.ok){D':Addr}(hD:X.W D'){elt:Expr}{gens:List Comprehension}{scope:Scope}{pos:Pos}{depth:Nat}{target iter:Expr}{ifs:List Expr}{yes:Sem Fin→Sem Fin}{I:Addr}(htn:compTurn (.ListComp elt gens scope pos) depth (.ref I) (.ref D') env=oK target iter ifs (yes (again (.compLoop (.ListComp elt gens scope pos) depth (.ref I) (.ref D') env))) (again (.compLoop (.ListComp elt gens scope pos) depth (.ref I) (.ref D') env)) (.ref I) env){asgf:D→Loc×List D→Option (Loc×List D)}{bodyC:Loc×List D→St→(Loc×List D→St→aD)→aD}{q₀:Pt}{its lk:List Addr}{tp:Bool}(R:X.rep q₀)(O:xA X env its lk)(ht:tp=true→dT target=true)(ha:∀(d:D) (S S':Loc×List D) (q:Pt) (v:Value),asgf d S=some S'→X.rep q→ax X q env S.1→cP X q D' S.2→X.den q v d→GA X (λ q _ _=>CJ X env D' q S') q (assign target env v) () q.st)(hb:∀(S:Loc×List D) (q:Pt),X.rep q→ax X q env S.1→cP X q D' S.2→∀k out,af (bodyC S q.st k)=out→out≠.no→∀(t:Sem Fin) (Q:Fin→Shared→Prop) (E:VS),
   (∀q' S' st',X.mv q q'→q'.st=st'→ax X q' env S'.1→cP X q' D' S'.2→af (k S' st')=out→wpAny X.m X.A t Q E q'.s)→
   wpAny X.m X.A (i7 ifs env) (λ b s'=>if b=true then wpAny X.m X.A (yes t) Q E s' else wpAny X.m X.A t Q E s') E q.s) {ds:List D} {S:Loc×List D} (F:ax X q₀ env S.1) (Ac:cP X q₀ D' S.2) (It:ct X.prog X.w X.A (q₀.cfg X.P) I (its++lk) its tp ds) {k:Loc×List D→St→aD} {out:aD} (hc:af (eB asgf bodyC ds S q₀.st k)=out) (ho:out≠.no) {Rs:Result→Shared→Prop} (kN:∀q S st,Mv X.prog X.w X.h₁ X.P (more X.W its) q₀ q→q.st=st→ax X q env S.1→cP X q D' S.2→af (k S st)=out→Rs (.ok .next) q.s):
  codeAny X.m X.A (.compLoop (.ListComp elt gens scope pos) depth (.ref I) (.ref D') env) Rs q₀.s:=
 rF htn (HO X its lk I tp q₀ (CJ X env D') (λ ds z st=>eB asgf bodyC ds z st k) out) (λ n s L=>
  p9 (J:=CJ X env D') ok O ht ho (λ q q' z R m j=>⟨O.env R m j.1,j.2.keep R m O.ok (ok _ hD) λ h=>(O.all _ (List.mem_append_left _ h)).2.1 hD⟩) L (λ q S M j hc=>kN q S _ M rfl j.1 j.2 hc) (λ _ _ h=>h) λ v d S S' q k' M j hv ha' hc next=>
   ha d S S' q v ha' M.rep j.1 j.2 hv _ _ λ _ q2 m2 e2 j2=>
    hb S' q2 m2.rep j2.1 j2.2 k' out (e2.symm▸hc) ho _ _ _ λ q3 S3 st3 m3 e3 F3 A3 hk3=>ak ⟨rfl,next q3 S3 (Mv.trans m2 m3 λ _ h _=>h) ⟨F3,A3⟩ (e3.symm▸hk3)⟩) ds.length ⟨ds,S,q₀,rfl,rfl,Mv.refl R,⟨F,Ac⟩,It,hc⟩
end
end
section
variable{X:Cx}
noncomputable def SI(X:Cx)(env:Env)(p:Pt)(e:Expr)(tp:Bool)(c:(List D→St→aD)→aD):Prop:=
 ∀k out,af (c k)=out→out≠.no→∀(Q:VS) (E:VS),
  (∀I new q₁ q ds st,X.mv p q₁→cu q₁ q→q₁.st=st→dV q₁ q new→ct X.prog X.w X.A (q.cfg (more X.P new)) I new new tp ds→af (k ds st)=out→Q (.ref I) q.s)→
  wpAny X.m X.A (eval e env) (λ x s₁=>wpAny X.m X.A (pyIter x) Q E s₁) E p.s
noncomputable def jM:Expr→Bool
 | .Set .. =>true
 |_=>false
theorem fw{e:Expr}:jM e=false→∀(env:Env) (x:Value),foldedSetIterable e env x=pure x:=by
 induction e using Expr.casesOn with
 |Set=>exact nofun
 |_=>exact λ _ _ _=>rfl
theorem dY{p q r:Pt}(a:X.e.mv p q)(b:X.e.mv q r):X.e.mv p r:=Mv.trans a b λ _ h _=>h
theorem jw{p q r:Pt}(a:X.mv p q)(b:X.mv q r):X.mv p r:=Mv.trans a b λ _ h _=>h
theorem eO{p q:Pt}(a:X.e.mv p q):X.mv p q:=a.weaken λ _ h=>h.elim
theorem gp{new:List Addr}(ok:X.ok):(X.plus new).ok:=λ a h=>.inl (ok a h)
section
variable{X:Cx}{env:Env}{ns:cr}{p:Pt}{loc:Loc}
theorem xA.new(ok:X.ok){q₁ q:Pt}{new:List Addr}(R:X.rep q₁)(F:ax X q₁ env loc)(hn:dV q₁ q new):xA (X.plus new) env new []:=
 ⟨λ b hb=>have hb:=aH new▸hb;⟨.inr hb,λ hw=>aN.mpr (hn b hb).1 (R.priv b (ok b hw)).1,λ e=>aN.mpr (e▸(hn b hb).1) R.size⟩,
  λ h=>aN.mpr (hn _ h).1 (R.priv _ F.pL).1,λ n c hm h=>aN.mpr (hn _ h).1 (R.priv _ (F.pC _ _ hm)).1⟩
theorem zg(ok:X.ok)(hh:X.A.handled=none)(hns:env.scope.names=ns)(hW:kc true env X.W){target iter:Expr}{body:List Stmt}{pos:Pos}{tp:Bool}{ci:(List D→St→aD)→aD}{bodyC:Loc→St→(Loc→St→aD)→aD}(R:X.rep p)(F:ax X p env loc)(hset:jM iter=false)(ht:tp=true→dT target=true)(hi:SI X.e env p iter tp ci)(hb:∀new (loc:Loc) (q:Pt),(X.plus new).rep q→ax (X.plus new) q env loc→SS (X.plus new) env q (execs body env) (bodyC loc q.st)):
  SS X env p (exec (.For target iter body [] pos) env) (λ k=>ci λ ds st=>eB (gC true ns 4 target) bodyC ds loc st k):=by
 intro k out hc ho Q E kN kR
 refine wpAny_For ?_ (fw hset env)
 refine bW (hi _ out hc ho (λ it s₂=>codeAny X.m X.A (.forLoop target it body [] env) (λ r s'=>match r with| .ok f=>Q f s'| .error e=>cameBackBy X.m X.A env E e s') s₂) E λ I new q₁ q ds st m g e hn It hk=>?_) (λ _ _ h=>h) λ _ _ h=>h
 have m':X.mv p q₁:=m.weaken λ _ h=>h.elim
 have F1:ax X q₁ env loc:=F.keepE m R
 exact jO (X:=X.plus new) (bodyC:=bodyC) (k:=k) (out:=out) (gp ok) (its:=new) (lk:=[]) (g.rep m.rep hn) (xA.new ok m.rep F1 hn) ht
  (fZ (gp ok) hh hns hW 4 target) (hb new) (F1.plus g hn) ((aH new).symm▸It) ((g.st.trans e).symm▸hk) ho (λ q' loc' st' M e' F' hk'=>kN q' loc' st' (Mv.trans m' (g.via m.rep hn (λ a h=>h) M) λ _ h _=>h) e' (F'.unplus F.pL F.pC) hk')
  λ v q' d st' M e' hv hout=>kR v q' d st' (Mv.trans m' (g.via m.rep hn (λ a h=>h) M) λ _ h _=>h) e' (hY hv) hout
noncomputable def eW:NameKind→Bool
 | .free=>true
 |_=>false
noncomputable def Gy:NameKind→Bool
 | .cell=>true
 |_=>false
noncomputable def clo(env:Env):cr→List (Str×Addr)→List (Str×Addr)
 |[],acc=>acc
 |(n,k)::r,acc=>clo env r (cond (eW k) ((n,(env.cells.lookup n).getD 0)::acc) acc)
theorem tP{n:Str}(h:(env.cells.lookup n).isSome=true):cellOf env n=pure ((env.cells.lookup n).getD 0):=by
 unfold cellOf
 revert h
 induction env.cells.lookup n using Option.casesOn with
 |none=>exact ftK
 |some a=>exact λ _=>rfl
theorem pH{scope:Scope}(h:∀n,(n,NameKind.free)∈scope.names→(env.cells.lookup n).isSome=true):closureFor scope env=pure (clo env scope.names []):=by
 unfold closureFor
 have gen (l:cr):∀acc:List (Str×Addr),(∀n,(n,NameKind.free)∈l→(env.cells.lookup n).isSome=true)→
   (forIn l acc λ (x:Str×NameKind) r=>(if(x.2==NameKind.free)=true then do let a←cellOf env x.1;pure (ForInStep.yield ((x.1,a)::r))else pure (ForInStep.yield r):Sem (ForInStep (List (Str×Addr)))))=pure (clo env l acc):=by
  induction l with
  |nil=>exact λ acc _=>rfl
  |cons x r ih=>
   intro acc hl
   obtain⟨n,k⟩:=x
   rw[List.forIn_cons]
   have hr m hm:=hl m (aK _ hm)
   induction k using NameKind.casesOn with
   |free=>
    show((cellOf env n>>=λ a=>pure (ForInStep.yield ((n,a)::acc)))>>=_)=_
    rw[tP (hl n (aF ..))]
    exact ih _ hr
   |_=>exact ih _ hr
 simpa using gen scope.names [] h
end
end
section
variable{k:NameKind}{x:Str}{ns':cr}
noncomputable def Cj:Option NameKind→Bool
 |some .free=>true
 |some .cell=>true
 |_=>false
noncomputable def kM:Option NameKind→Bool
 |some .cell=>true
 |_=>false
noncomputable def dR:cr→Loc→Loc
 |[],_=>[]
 |(n,k)::r,loc=>cond (eW k) ((bD loc n).elim (dR r loc) λ d=>(n,d)::dR r loc) (dR r loc)
noncomputable def FZ:cr→Str→Bool
 |[],_=>false
 |p::r,x=>c7 p.1 x||FZ r x
noncomputable def rE(ns:cr):cr→Bool
 |[]=>true
 |(n,k)::r=>!FZ r n&&(!Gy k&&((!eW k||Cj (cA ns n))&&rE ns r))
noncomputable def jW(ns:cr)(n:Str)(k:NameKind):NameKind:=cond (eW k&&kM (cA ns n)) .cell k
noncomputable def cB(ns:cr):cr→cr
 |[]=>[]
 |(n,k)::r=>(n,jW ns n k)::cB ns r
theorem sN(l:cr)(x:Str):FZ l x=true↔x∈l.map (·.1):=by
 induction l with
 |nil=>exact⟨ftK,λ h=>nomatch h⟩
 |cons p r ih=>exact(Iff.of_eq (Bool.or_eq_true ..)).trans ((or_congr (by rw[eV,decide_eq_true_iff];exact eq_comm) ih).trans aJ.symm)
theorem yY{o:Option NameKind}(h:Cj o=true):o=some .cell∨o=some .free:=by
 induction o using Option.casesOn with
 |none=>exact ftK h
 |some k=>induction k using NameKind.casesOn with
  |cell=>exact .inl rfl
  |free=>exact .inr rfl
  |_=>exact ftK h
theorem mG{b:Bool}(h:(!b)=true):b=false:=by induction b using Bool.casesOn<;>first|rfl|exact ftK h
structure eU(ns ns':cr):Prop where
 nodup:(ns'.map (·.1)).Nodup
 all:∀p∈ns',p.2≠.cell∧(p.2= .free→cA ns p.1=some .cell∨cA ns p.1=some .free)
theorem eU.nocell{ns:cr}(c:eU ns ns')(n:Str)(k:NameKind)(h:(n,k)∈ns'):k≠.cell:=(c.all _ h).1
theorem eU.free{ns:cr}(c:eU ns ns')(n:Str)(h:(n,NameKind.free)∈ns'):cA ns n=some .cell∨cA ns n=some .free:=(c.all _ h).2 rfl
theorem lV{ns:cr}(h:rE ns ns'=true):eU ns ns':=by
 induction ns' with
 |nil=>exact⟨.nil,λ _ h=>nomatch h⟩
 |cons p r ih=>
  obtain⟨h1,h⟩:=(Bool.and_eq_true _ _).mp h
  obtain⟨h2,h⟩:=(Bool.and_eq_true _ _).mp h
  obtain⟨h3,h⟩:=(Bool.and_eq_true _ _).mp h
  have h1:=mG h1
  have h2:=mG h2
  refine⟨bF.mpr ⟨λ m=>tfK ((sN r p.1).mpr m▸h1),(ih h).nodup⟩,bv.mpr ⟨⟨λ e=>?_,λ e=>?_⟩,(ih h).all⟩⟩
  ·rw[e]at h2;exact tfK h2
  ·rw[e]at h3;exact yY h3
theorem kF{l:cr}(h:bD l x=some k):(x,k)∈l:=by
 induction l with
 |nil=>exact nsK h
 |cons p r ih=>
  rw[b9]at h
  by_cases e:p.1=x
  ·rw[aZ e]at h
   exact e▸an h▸aF ..
  ·exact aK _ (ih ((aI e).symm.trans h))
theorem mi{l:cr}:(l.map (·.1)).Nodup→(x,k)∈l→bD l x=some k:=by
 induction l with
 |nil=>exact λ _ h=>nomatch h
 |cons p r ih=>
  intro hn h
  have hn:=bF.mp hn
  rw[b9]
  rcases aJ.mp h with e|h
  ·subst e;exact aZ rfl
  ·exact(aI λ e:p.1=x=>hn.1 (aS.mpr ⟨_,h,e.symm⟩)).trans (ih hn.2 h)
theorem uG(ns:cr)(l:cr)(x:Str):bD (cB ns l) x=(bD l x).map (jW ns x):=by
 induction l with
 |nil=>rfl
 |cons p r ih=>
  show bD ((p.1,jW ns p.1 p.2)::cB ns r) x=_
  rw[b9,b9]
  by_cases h:p.1=x
  ·subst h;rw[aZ rfl,aZ rfl];rfl
  ·rw[aI h,aI h];exact ih
theorem jI{scope:Scope}{env:Env}{ns:cr}(hk:env.scope.kind= .function)(hns:env.scope.names=ns):(relabel scope env).names=cB ns scope.names:=by
 unfold relabel
 dsimp only
 rw[hk]
 induction scope.names with
 |nil=>rfl
 |cons p r ih=>
  rw[List.map_cons,ih,cW hns]
  refine ae (·::cB ns r) ?_
  show _=(p.1,cond (eW p.2&&kM (cA ns p.1)) .cell p.2)
  induction p.2 using NameKind.casesOn with
  |free=>induction cA ns p.1 using Option.casesOn with
   |none=>rfl
   |some q=>induction q using NameKind.casesOn<;>rfl
  |_=>rfl
theorem lD{loc:Loc}{d:D}(h:bD (dR ns' loc) x=some d):bD loc x=some d∧(x,NameKind.free)∈ns':=by
 refine aT (P:=λ d=>bD loc x=some d∧(x,NameKind.free)∈ns') ?_ h
 clear h
 induction ns' with
 |nil=>exact ag
 |cons p r ih=>
  obtain⟨n,k⟩:=p
  have ih':=ih.mono λ d h=>(⟨h.1,aK (n,k) h.2⟩:bD loc x=some d∧(x,NameKind.free)∈(n,k)::r)
  show b6 _ (bD (cond (eW k) ((bD loc n).elim (dR r loc) λ d=>(n,d)::dR r loc) (dR r loc)) x)
  induction k using NameKind.casesOn with
  |free=>
   have e {d} (h:bD loc n=some d):b6 (λ d=>bD loc x=some d∧(x,NameKind.free)∈(n,NameKind.free)::r) (bD ((n,d)::dR r loc) x):=by
    rw[b9]
    by_cases q:n=x
    ·subst q;rw[aZ rfl];exact⟨h,aF ..⟩
    ·rw[aI q];exact ih'
   revert e
   show _→b6 _ (bD ((bD loc n).elim (dR r loc) λ d=>(n,d)::dR r loc) x)
   induction bD loc n using Option.casesOn with
   |none=>exact λ _=>ih'
   |some d=>exact λ e=>e rfl
  |_=>exact ih'
section
variable{env:Env}
theorem Hq{n:Str}{c:Addr}:∀{acc:List (Str×Addr)},(n,c)∈clo env ns' acc→(n,c)∈acc∨((n,NameKind.free)∈ns'∧c=(env.cells.lookup n).getD 0):=by
 induction ns' with
 |nil=>exact .inl
 |cons p r ih=>
  intro acc h
  obtain⟨m,k⟩:=p
  rcases ih h with h|⟨h,e⟩
  ·induction k using NameKind.casesOn with
   |free=>
    rcases aJ.mp h with e|h
    ·cases(e);exact .inr ⟨aF ..,rfl⟩
    ·exact .inl h
   |_=>exact .inl h
  ·exact .inr ⟨aK _ h,e⟩
theorem zF(r:cr):∀(acc:List (Str×Addr)),x∉r.map (·.1)→(clo env r acc).lookup x=acc.lookup x:=by
 induction r with
 |nil=>exact λ _ _=>rfl
 |cons p r ih=>
  intro acc hm
  rw[List.map_cons,aJ,not_or]at hm
  refine(ih _ hm.2).trans ?_
  induction eW p.2 using Bool.casesOn with
  |false=>rfl
  |true=>show List.lookup x ((p.1,_)::acc)=_;rw[List.lookup_cons,beq_eq_false_iff_ne.mpr hm.1]
theorem Dv(hx:(x,NameKind.free)∈ns')(hn:(ns'.map (·.1)).Nodup):∀{acc:List (Str×Addr)},(clo env ns' acc).lookup x=some ((env.cells.lookup x).getD 0):=by
 induction ns' with
 |nil=>exact nomatch hx
 |cons p r ih=>
  intro acc
  have hn:=bF.mp hn
  rcases aJ.mp hx with e|hx'
  ·subst e
   exact(zF r _ hn.1).trans (by show List.lookup x ((x,_)::acc)=_;rw[List.lookup_cons_self])
  ·exact ih hx' hn.2
theorem zD(hn:(ns'.map (·.1)).Nodup):∀{acc:List (Str×Addr)},(acc.map (·.1)).Nodup→(∀n∈acc.map (·.1),n∉ns'.map (·.1))→((clo env ns' acc).map (·.1)).Nodup:=by
 induction ns' with
 |nil=>exact λ h _=>h
 |cons p r ih=>
  intro acc ha hd
  have hn:=bF.mp hn
  have hd' n h1 h2:=hd n h1 (aK _ h2)
  show((clo env r (cond (eW p.2) ((p.1,_)::acc) acc)).map (·.1)).Nodup
  induction eW p.2 using Bool.casesOn with
  |false=>exact ih hn.2 ha hd'
  |true=>exact ih hn.2 (bF.mpr ⟨λ h=>hd _ h (aF ..),ha⟩) (bv.mpr ⟨hn.1,hd'⟩)
end
end
section
section
variable{X:Cx}{env:Env}{ns:cr}{p q:Pt}{loc:Loc}{scope:Scope}
theorem oH(F:ax X p env loc)(hns:env.scope.names=ns)(co:eU ns scope.names)(n:Str)(hn:(n,NameKind.free)∈scope.names):(env.cells.lookup n).isSome=true:=by
 have:=co.free n hn
 rw[←cW hns]at this
 obtain⟨c,_,hc,_⟩:=F.cell n this
 rw[hc];rfl
theorem gT(F:ax X p env loc)(hns:env.scope.names=ns)(co:eU ns scope.names){n:Str}{c:Addr}(h:(n,c)∈clo env scope.names []):(n,c)∈env.cells:=by
 obtain h|⟨h,e⟩:=Hq h
 ·exact nomatch h
 ·obtain⟨a,ha⟩:=Option.isSome_iff_exists.mp (oH F hns co n h)
  rw[ha]at e
  subst e
  exact mem_of_lookup ha
theorem l9(ns:cr)(x:Str):jW ns x .free= .cell∨jW ns x .free= .free:=by
 show cond (kM (cA ns x)) NameKind.cell NameKind.free= .cell∨cond (kM (cA ns x)) NameKind.cell NameKind.free= .free
 induction kM (cA ns x)using Bool.casesOn with
 |false=>exact .inr rfl
 |true=>exact .inl rfl
theorem Dk(F:ax X p env loc)(R:X.rep p)(hns:env.scope.names=ns)(hk:scope.kind= .function)(co:eU ns scope.names){new:List Addr}{C:Addr}(g:cu p q)(hn:dV p q new)(hC:C∈new)(hN:q.s.heap.Ns C (λ _=>none)):ax (X.plus new) q (compEnvC scope (clo env scope.names []) C env) (dR scope.names loc):=by
 have F':=F.plus g hn
 have kind x:(compEnvC scope (clo env scope.names []) C env).kindOf x=(cA scope.names x).map (jW ns x):=(cW (jI F.kind hns) x).trans (uG ns scope.names x)
 have kf {x} (h:(x,NameKind.free)∈scope.names):(compEnvC scope (clo env scope.names []) C env).kindOf x=some (jW ns x .free):=by rw[kind,show cA scope.names x=some NameKind.free from mi co.nodup h];rfl
 have kfree x (hx:(compEnvC scope (clo env scope.names []) C env).kindOf x=some .cell∨(compEnvC scope (clo env scope.names []) C env).kindOf x=some .free):(x,NameKind.free)∈scope.names:=by
  rw[kind]at hx
  induction hq:cA scope.names x using Option.casesOn with
  |none=>rw[hq]at hx;exact hx.elim nofun nofun
  |some k=>
   rw[hq]at hx
   have hm:=kF hq
   induction k using NameKind.casesOn with
   |free=>exact hm
   |cell=>exact absurd rfl (co.nocell x _ hm)
   |_=>exact hx.elim nofun nofun
 refine⟨hk,F.glob,F.blt,⟨λ _=>none,hN,λ x d hx hl=>?_⟩,λ x hx=>?_,λ x d hx=>?_,.inr hC,λ n c h=>.inl (F.pC n c (gT F hns co h)),?_,λ n c h e=>?_⟩
 ·rw[kf (lD hx).2]at hl
  exact(l9 ns x).elim (λ e=>nomatch e.symm.trans (an hl)) λ e=>nomatch e.symm.trans (an hl)
 ·have hm:=kfree x hx
  have hv:=co.free x hm
  rw[←cW hns]at hv
  obtain⟨c,v,hc,hcell,hd⟩:=F'.cell x hv
  exact⟨c,v,(Dv hm co.nodup).trans (by rw[hc];rfl),hcell,λ d hd'=>hd d (lD hd').1⟩
 ·rw[kf (lD hx).2]
  exact .inr ((l9 ns x).imp (ae some) (ae some))
 ·exact List.Pairwise.imp_of_mem (R:=λ x y=>x.1≠y.1) (λ {x y} hx hy hxy e=>hxy (name_of_addr F.apart (gT F hns co (n:=x.1) (c:=x.2) hx) (e▸gT F hns co (n:=y.1) (c:=y.2) hy))) (List.pairwise_map.mp (zD (acc:=[]) co.nodup .nil λ _ h=>nomatch h))
 ·exact aN.mpr (hn C hC).1 ((show c=C from e)▸(R.priv _ (F.pC n c (gT F hns co h))).1)
end
theorem ct.grow{X:Cx}{p q:Pt}{P:Addr→Prop}{I:Addr}{own wo new:List Addr}{tp:Bool}{ds:List D}(It:ct X.prog X.w X.A (p.cfg P) I own wo tp ds)(g:cu p q)(hn:dV p q new):ct X.prog X.w X.A (q.cfg (more P new)) I own wo tp ds:=
 have l:(p.cfg P).Le (q.cfg (more P new)):=g.cfg hn
 It.mono (λ _ b _ o h=>g.keep b o h) (·.mono l) (λ _ _ _ h=>h.mono l) λ _ _ _ h=>h.mono l
section
variable{X:Cx}{env:Env}{ns:cr}{p:Pt}{loc:Loc}{scope:Scope}
theorem zB(R:X.rep p)(F:ax X p env loc)(hns:env.scope.names=ns)(hk:scope.kind= .function)(co:eU ns scope.names){Q:Value→Env→Shared→Prop}{E:VS}(k:∀q C D',C≠D'→cu p q→dV p q [D',C]→ax (X.plus [D',C]) q (compEnvC scope (clo env scope.names []) C env) (dR scope.names loc)→cP (X.plus [D',C]) q D' []→
   ∀cenv:Env,cenv.locals=C→{cenv with scope:=relabel scope env}=compEnvC scope (clo env scope.names []) C env→Q (.ref D') cenv q.s):
  wpAny X.m X.A (newList []) (λ acc s₃=>wpAny X.m X.A (newFunctionEnv scope env.globals (clo env scope.names []) [] env.qual none .none (some env)) (λ cenv s₄=>Q acc cenv s₄) E s₃) E p.s:=by
 refine wpAny_newObj_type (wpAny_newFunctionEnv (λ x hx=>co.nocell x.1 x.2 hx) (λ y hy=>nomatch hy) (λ h₁ hns₁ hsb₁=>?_) hk) (bo _)
 dsimp only at hns₁ hsb₁ ⊢
 generalize hH2:p.s.heap.push {cls:= .type "list",dict:=none,data:= .seq ([]:List Value).toArray}=H2 at hns₁ hsb₁ ⊢
 have hC:H2.objs.size=p.s.heap.objs.size+1:=hH2▸bA ..
 have hz:h₁.objs.size=p.s.heap.objs.size+2:=hsb₁.1.trans ((bA ..).trans (ae (·+1) hC))
 have hDC:H2.objs.size≠p.s.heap.objs.size:=hC▸Nat.succ_ne_self _
 have g:cu p ⟨{p.s with heap:=h₁,toks:=p.s.toks+([]:List (Str×Value)).length},p.ρ,p.st⟩:=
  ⟨λ b o e=>hsb₁.extBut b o (aL (hC▸Nat.lt_succ_of_lt (az e))) (ah _ (hH2▸ah _ e)),hz▸aB ..,rfl,rfl,rfl,rfl,rfl⟩
 have hn:dV p ⟨{p.s with heap:=h₁,toks:=p.s.toks+([]:List (Str×Value)).length},p.ρ,p.st⟩ [p.s.heap.objs.size,H2.objs.size]:=
  bv.mpr ⟨hz▸qQ (a:=0) (by decide),List.forall_mem_singleton.mpr (hC▸hz▸qQ (a:=1) (by decide))⟩
 exact k _ H2.objs.size p.s.heap.objs.size hDC g hn (Dk F R hns hk co g hn (.tail _ (.head _)) (by simpa using hns₁)) ⟨bM R.size,#[],0,hsb₁.extBut _ _ (Ne.symm hDC) (ah _ (hH2▸Heap.get?_push_size _ rfl)),.nil⟩ _ rfl rfl
end
end
section
variable{α:Type}
noncomputable def ST(X:Cx)(p:Pt)(t:Sem Bool)(c:(Bool→St→aD)→aD):Prop:=
 ∀k out,af (c k)=out→out≠.no→∀(Q:Bool→Shared→Prop) (E:VS),(∀b q st,X.mv p q→q.st=st→af (k b st)=out→Q b q.s)→wpAny X.m X.A t Q E p.s
noncomputable def Cx.withP(X:Cx)(P':Addr→Prop):Cx:={X with P:=P'}
noncomputable def fB(t:Expr→Loc→St→(Bool→St→aD)→aD):List Expr→Loc→St→(Bool→St→aD)→aD
 |[],_,st,k=>k true st
 |e::es,loc,st,k=>t e loc st λ b st'=>cond b (fB t es loc st' k) (k false st')
noncomputable def small(l:List α):Bool:=Nat.ble (aw l) 1000000
theorem eh{l:List α}(h:small l=true):l.length≤sizeLine:=ad (bf l▸Nat.le_of_ble_eq_true h) (by decide)
section
variable{X:Cx}{env:Env}{loc:Loc}
theorem rI{prog:Program}{w:World}{A:Around}{E:VS}{s:Shared}{Q:Bool→Shared→Prop}(es:List Expr)(h:Q false s):wpAny (model prog w) A (forIn es false λ c r=>if r=true then do let ok←isTrue c env (eval c env);pure (ForInStep.yield ok)else pure (ForInStep.yield r)) Q E s:=by
 induction es with
 |nil=>exact ak h
 |cons e es ih=>
  rw[List.forIn_cons]
  exact aa (ak ih)
theorem kZ{t:Expr→Loc→St→(Bool→St→aD)→aD}(h:∀e q,X.rep q→ax X q env loc→ST X.e q (isTrue e env (eval e env)) (t e loc q.st))(es:List Expr):∀(p:Pt),X.rep p→ax X p env loc→ST X.e p (i7 es env) (fB t es loc p.st):=by
 induction es with
 |nil=>exact λ p R F k out hc ho Q E kQ=>ak (kQ true p p.st (Mv.refl R) rfl hc)
 |cons e es ih=>
  intro p R F k out hc ho Q E kQ
  unfold i7
  rw[List.forIn_cons]
  refine aa ?_
  show wpAny _ _ (if true=true then _ else _) _ _ _
  rw[aZ rfl]
  refine aa (h e p R F _ out hc ho _ E λ b q st m e1 hk=>ak ?_)
  induction b using Bool.casesOn with
  |true=>exact ih q m.rep (F.keepE m R) k out (e1▸hk) ho Q E λ b' q' st' m' e' hk'=>kQ b' q' st' (Mv.trans m m' λ _ h _=>h) e' hk'
  |false=>exact rI es (kQ false q st m e1 hk)
theorem wf(R:X.rep p){D':Addr}{acc:List D}(hP:X.P D')(ac:cP X p D' acc)(hsz:acc.length≤sizeLine){v:Value}{d:D}(hv:X.den p v d){Q:VS}{E:VS}(kQ:∀v q,Mv X.prog X.w X.h₁ X.P (λ a=>a=D') p q→q.st=p.st→cP X q D' (acc++[d])→Q v q.s):wpAny X.m X.A (call (.builtin "list.append") [.ref D',v]) Q E p.s:=by
 obtain⟨nd,xs,n,hl,hi⟩:=ac
 have hs:Heap.SameBut D' p.s.heap (p.s.heap.update D' (Obj.mapSeq λ xs=>xs.push v)):=Heap.SameBut.update ..
 have l:=eK (P:=X.P) (p:=p) (s':={p.s with heap:=p.s.heap.update D' (Obj.mapSeq λ xs=>xs.push v)}) hP hs
 exact call_meets PySem.F.slot_list_append ⟨_,hl,rfl⟩ PySem.F.entry_list_append (PySem.F.args_list_append_2 _ _) (list_append _ xs n v (hi.size.symm▸hsz)) ⟨hl,
  kQ .none ⟨_,p.ρ,p.st⟩ (Mv.private R hP rfl hs rfl rfl rfl) rfl ⟨nd,_,_,hl.update _,by rw[Array.toList_push];exact(hi.mono l).append (.cons (hv.mono l) .nil)⟩⟩
end
theorem p0(P:Addr→Prop)(a b:List Addr):more (more P a) b=more P (a++b):=by
 funext x
 apply propext
 unfold more
 rw[ca,or_assoc]
noncomputable def oL(tests:Loc→St→(Bool→St→aD)→aD)(elt:Loc→St→(D→St→aD)→aD)(S:Loc×List D)(st:St)(k:Loc×List D→St→aD):aD:=
 tests S.1 st λ b st'=>cond b (elt S.1 st' λ x st''=>wc (small S.2) st'' λ st''=>k (S.1,S.2++[x]) st'') (k S st')
noncomputable def jz(f:D→Loc→Option Loc)(d:D)(S:Loc×List D):Option (Loc×List D):=(f d S.1).map λ loc=>(loc,S.2)
section
variable{X:Cx}{env:Env}{ns:cr}{p:Pt}{loc:Loc}{scope:Scope}
structure oX(X:Cx)(nm:cr)(ifs:List Expr)(elt:Expr)(t:Expr→Loc→St→(Bool→St→aD)→aD)(c:Loc→St→(D→St→aD)→aD):Prop where
 tests:∀(P':Addr→Prop) cenv loc e q,cenv.scope.names=nm→(X.withP P').rep q→ax (X.withP P') q cenv loc→ST (X.withP P').e q (isTrue e cenv (eval e cenv)) (t e loc q.st)
 elt:∀(P':Addr→Prop) cenv loc q,cenv.scope.names=nm→(X.withP P').rep q→ax (X.withP P') q cenv loc→SE (X.withP P').e q (eval elt cenv) (c loc q.st)
theorem jT{Z:Cx}(okZ:Z.ok){cenv:Env}{D':Addr}(hD:Z.W D')(hDL:D'≠cenv.locals)(hDC:∀n c,(n,c)∈cenv.cells→c≠D'){ifs:List Expr}{elt:Expr}{t:Expr→Loc→St→(Bool→St→aD)→aD}{c:Loc→St→(D→St→aD)→aD}(ht:∀e loc q,Z.rep q→ax Z q cenv loc→ST Z.e q (isTrue e cenv (eval e cenv)) (t e loc q.st))(he:∀loc q,Z.rep q→ax Z q cenv loc→SE Z.e q (eval elt cenv) (c loc q.st))(S:Loc×List D)(q:Pt)(R:Z.rep q)(F:ax Z q cenv S.1)(Ac:cP Z q D' S.2)(k:Loc×List D→St→aD)(out:aD)(hc:af (oL (fB t ifs) c S q.st k)=out)(ho:out≠.no)(tr:Sem Fin)(Q:Fin→Shared→Prop)(E:VS)(kQ:∀q' S' st',Z.mv q q'→q'.st=st'→ax Z q' cenv S'.1→cP Z q' D' S'.2→af (k S' st')=out→wpAny Z.m Z.A tr Q E q'.s):
  wpAny Z.m Z.A (i7 ifs cenv) (λ b s'=>if b=true then wpAny Z.m Z.A (xG elt (.ref D') cenv tr) Q E s' else wpAny Z.m Z.A tr Q E s') E q.s:=by
 refine kZ (λ e q' R' F'=>ht e S.1 q' R' F') ifs q R F _ out hc ho _ E λ b q1 st1 m1 e1 hk1=>?_
 have M1:Z.mv q q1:=m1.weaken λ _ h=>h.elim
 have F1:ax Z q1 cenv S.1:=F.keepE m1 R
 have A1:cP Z q1 D' S.2:=Ac.keep R m1 (λ _ h=>h.elim) (okZ _ hD) (λ h=>h)
 induction b using Bool.casesOn with
 |false=>exact(aI Bool.false_ne_true).symm▸kQ q1 S st1 M1 e1 F1 A1 hk1
 |true=>
  rw[aZ rfl]
  unfold xG
  refine aa (aa (he S.1 q1 M1.rep F1 _ out (e1▸hk1) ho _ E λ x q2 d st2 m2 e2 hx hk2=>?_))
  obtain⟨hsm,hk2⟩:=ni hk2 ho
  have M2:Z.mv q1 q2:=m2.weaken λ _ h=>h.elim
  refine aa (wf M2.rep (okZ _ hD) (A1.keep M1.rep m2 (λ _ h=>h.elim) (okZ _ hD) (λ h=>h)) (eh hsm) hx λ v q3 m3 e3 A3=>ak ?_)
  exact kQ q3 (S.1,S.2++[d]) st2 (Mv.trans (Mv.trans M1 M2 λ _ h _=>h) (m3.weaken (W':=Z.W) λ a h=>h▸hD) λ _ h _=>h) (e3.trans e2) ((F1.keepE m2 M1.rep).keep m3 M2.rep (λ a h=>h▸okZ _ hD) (λ h=>hDL h.symm) λ n c hm h=>hDC n c hm h) A3 hk2
end
end
section
variable{X:Cx}{p:Pt}{D':Addr}{acc:List D}
theorem ax.reW{env:Env}{loc:Loc}(W':Addr→Prop)(F:ax X p env loc):ax {X with W:=W'} p env loc:=F.mv (λ _ _ h=>h) (λ _ h=>h) (λ _ _ _ _ h=>h) F.pL F.pC
theorem cP.reW(W':Addr→Prop)(a:cP X p D' acc):cP {X with W:=W'} p D' acc:=by
 obtain⟨nd,xs,n,hl,hi⟩:=a
 exact⟨nd,xs,n,hl,hi⟩
section
variable{X:Cx}{env:Env}{ns:cr}{p:Pt}{loc:Loc}{scope:Scope}
theorem oP{Z:Cx}(okZ:Z.ok)(hh:Z.A.handled=none){cenv:Env}{nm:cr}(hnm:cenv.scope.names=nm){D':Addr}(hL:Z.W cenv.locals)(hD:Z.P D')(hDL:D'≠cenv.locals){target:Expr}(d:D)(S S':Loc×List D)(q:Pt)(v:Value)(h:jz (gC false nm 4 target) d S=some S')(R:Z.rep q)(F:ax Z q cenv S.1)(Ac:cP Z q D' S.2)(hv:Z.den q v d):
  GA Z (λ q _ _=>CJ Z cenv D' q S') q (assign target cenv v) () q.st:=by
 obtain⟨loc',hl,rfl⟩:=bL.mp h
 have ok1:Cx.ok {Z with W:=λ a=>a=cenv.locals}:=λ a h=>(show a=cenv.locals from h)▸F.pL
 exact λ Q E kQ=>fZ (X:={Z with W:=λ a=>a=cenv.locals}) (fn:=false) ok1 hh hnm ⟨rfl,nofun⟩ 4 target d S.1 loc' q v hl R (F.reW _) hv Q E λ _ q' m e F'=>
  kQ () q' (m.weaken λ a h=>(show a=cenv.locals from h)▸hL) e ⟨F'.reW Z.W,Ac.keep R m ok1 hD hDL⟩
structure LP(X:Cx)(p q₁ q2 q3:Pt)(all:List Addr)(C D':Addr)(cenv:Env)(loc':Loc)(acc:List D):Prop where
 m:X.e.mv p q₁
 g:cu q₁ q2
 hn:dV q₁ q2 all
 hC:C∈all
 hD:D'∈all
 cd:C≠D'
 M:Mv X.prog X.w X.h₁ (more X.P all) (λ a=>a∈all) q2 q3
 hc:cenv.locals=C
 F:ax (X.plus all) q3 cenv loc'
 A:cP (X.plus all) q3 D' acc
theorem tJ{q₁ q2 q3:Pt}{all:List Addr}{C:Addr}{cenv:Env}{loc':Loc}(c:LP X p q₁ q2 q3 all C D' cenv loc' acc){Q:VS}{E:VS}{r:Flow}(kQ:∀q,X.e.mv p q→q.st=q3.st→X.den q (.ref D') (.lst acc)→Q (.ref D') q.s):compPost X.m X.A E none Q (.ref D') C (.ok r) q3.s:=by
 obtain⟨m,hm,_⟩:=c.F.ns
 rw[c.hc]at hm
 refine⟨m,hm,λ h' hs=>?_⟩
 have R:=c.m.rep
 have M3:Mv X.prog X.w X.h₁ (more X.P all) (λ a=>a∈all) q2 ⟨{q3.s with heap:=h'},q3.ρ,q3.st⟩:=Mv.trans c.M (Mv.private c.M.rep (.inr c.hC) c.hC hs rfl rfl rfl) λ _ h _=>h
 obtain⟨_,xs,n,hl,hi⟩:=c.A
 exact kQ ⟨{q3.s with heap:=h'},q3.ρ,q3.st⟩ (dY c.m (c.g.via R c.hn (λ a h=>.inr h) M3)) rfl
  (.lst (hn:=rfl) (show IsL h' D' xs n from(hs.2 D' c.cd.symm).trans hl) rfl rfl (λ h=>h.elim (λ hf=>M3.rep.footNot hf (.inr c.hD)) λ hp=>aN.mpr (c.hn D' c.hD).1 (R.priv D' hp).1)
   (bH.mono (bH.mono hi (eK (P:=more X.P all) (p:=q3) (s':={q3.s with heap:=h'}) (.inr c.hC) hs)) (dM λ _ h=>.inl h)))
noncomputable def Cx.comp(X:Cx)(all:List Addr)(C D':Addr):Cx:={X with P:=more X.P all,W:=λ a=>a=C∨a=D'}
structure ZC(Z:Cx)(cenv:Env)(D':Addr)(nm:cr):Prop where
 ok:Z.ok
 nm:cenv.scope.names=nm
 wC:Z.W cenv.locals
 wD:Z.W D'
 dl:D'≠cenv.locals
 dc:∀n c,(n,c)∈cenv.cells→c≠D'
theorem lU(hh:X.A.handled=none)(hns:env.scope.names=ns)(R:X.rep p)(F:ax X p env loc){elt target iter:Expr}{ifs:List Expr}{gs:List Comprehension}{pos pos':Pos}{tp:Bool}(hk:scope.kind= .function)(co:eU ns scope.names)(hset:jM iter=false)(htp:tp=true→dT target=true){ci:(List D→St→aD)→aD}(hi:SI X.e env p iter tp ci){bodyC:Loc×List D→St→(Loc×List D→St→aD)→aD}{yes:Addr→Env→Sem Fin→Sem Fin}(htn:∀I D' cenv,compTurn (.ListComp elt (⟨target,iter,ifs,0⟩::gs) scope pos) 0 (.ref I) (.ref D') cenv=oK target iter ifs (yes D' cenv (again (.compLoop (.ListComp elt (⟨target,iter,ifs,0⟩::gs) scope pos) 0 (.ref I) (.ref D') cenv))) (again (.compLoop (.ListComp elt (⟨target,iter,ifs,0⟩::gs) scope pos) 0 (.ref I) (.ref D') cenv)) (.ref I) cenv)(hb:∀all C D' cenv,ZC (X.comp all C D') cenv D' (cB ns scope.names)→∀(S:Loc×List D) (q:Pt),(X.comp all C D').rep q→ax (X.comp all C D') q cenv S.1→cP (X.comp all C D') q D' S.2→∀k out,af (bodyC S q.st k)=out→out≠.no→∀(t:Sem Fin) (Q:Fin→Shared→Prop) (E:VS),
   (∀q' S' st',(X.comp all C D').mv q q'→q'.st=st'→ax (X.comp all C D') q' cenv S'.1→cP (X.comp all C D') q' D' S'.2→af (k S' st')=out→wpAny X.m X.A t Q E q'.s)→
   wpAny X.m X.A (i7 ifs cenv) (λ b s'=>if b=true then wpAny X.m X.A (yes D' cenv t) Q E s' else wpAny X.m X.A t Q E s') E q.s) {k:List D→St→aD} {out:aD} (hc:af (ci λ ds st=>eB (jz (gC false (cB ns scope.names) 4 target)) bodyC ds (dR scope.names loc,[]) st λ S st'=>k S.2 st')=out) (ho:out≠.no) {use:Option (Value→Sem Unit)} {Q:VS} {E:VS} (fin:∀q₁ q2 q3 all C D' cenv loc' acc,ax X q₁ env loc→LP X p q₁ q2 q3 all C D' cenv loc' acc→af (k acc q3.st)=out→compPost X.m X.A E use Q (.ref D') C (.ok .next) q3.s):
  wpAny X.m X.A (comprehension (.ListComp elt (⟨target,iter,ifs,0⟩::gs) scope pos) scope env pos' (newList []) false (eval iter env) use) Q E p.s:=by
 refine wpAny_comprehension_free (g:=⟨target,iter,ifs,0⟩) (gs:=gs) rfl (fw hset env) (pH (oH F hns co)) hk (λ x hx hl=>(fS ..).symm.trans (mi co.nodup (hl▸hx))) ?_
 refine bW (hi _ out hc ho (λ it s₂=>wpAny X.m X.A (newList []) (λ acc s₃=>wpAny X.m X.A (newFunctionEnv scope env.globals (clo env scope.names []) [] env.qual none .none (some env)) (λ cenv s₄=>
    codeAny X.m X.A (.compStart (.ListComp elt (⟨target,iter,ifs,0⟩::gs) scope pos) 0 it acc {cenv with scope:=relabel scope env}) (compPost X.m X.A E use Q acc cenv.locals) s₄) E s₃) E s₂) E λ I new q₁ q ds st m g e hn It hkk=>?_) (λ _ _ h=>h) λ _ _ h=>h
 have R1:X.rep q₁:=m.rep
 have F1:ax X q₁ env loc:=F.keepE m R
 refine zB (X:=X.plus new) (g.rep R1 hn) (F1.plus g hn) hns hk co λ q2 C D' hCD g2 hn2 F2 A2 cenv hcl hce=>?_
 rw[hce,hcl]
 have hnn:dV q₁ q2 (new++[D',C]):=List.forall_mem_append.mpr ⟨λ b h=>⟨(hn b h).1,ao (hn b h).2 g2.size⟩,λ b h=>⟨ad g.size (hn2 b h).1,(hn2 b h).2⟩⟩
 have gg:cu q₁ q2:=g.trans g2
 have mD:D'∈new++[D',C]:=b7 _ (.head _)
 have mC:C∈new++[D',C]:=b7 _ (.tail _ (.head _))
 have eP:(X.plus new).plus [D',C]=X.plus (new++[D',C]):=ae (λ P=>{X with P:=P}) (p0 ..)
 rw[eP]at F2 A2
 have It2:=It.grow g2 hn2
 rw[p0]at It2
 have old {b} (hb:b∈[D',C]) (h:b∈new):False:=aN.mpr (hn2 b hb).1 (hn b h).2
 have cellP n c (h:(n,c)∈(compEnvC scope (clo env scope.names []) C env).cells):c<q₁.s.heap.objs.size:=(R1.priv _ (F1.pC _ _ (gT F1 hns co h))).1
 have okZ:(X.comp (new++[D',C]) C D').ok:=λ a h=>.inr (h.elim (λ e=>e▸mC) λ e=>e▸mD)
 have zc:ZC (X.comp (new++[D',C]) C D') (compEnvC scope (clo env scope.names []) C env) D' (cB ns scope.names):=
  ⟨okZ,jI F.kind hns,.inl rfl,.inr rfl,hCD.symm,λ n c hm h=>aN.mpr (hnn D' mD).1 (h▸cellP n c hm)⟩
 have loop:codeAny X.m X.A (.compLoop (.ListComp elt (⟨target,iter,ifs,0⟩::gs) scope pos) 0 (.ref I) (.ref D') (compEnvC scope (clo env scope.names []) C env)) (compPost X.m X.A E use Q (.ref D') C) q2.s:=
  iY (X:=X.comp (new++[D',C]) C D') okZ (D':=D') (.inr rfl) (htn I D' _) (its:=new) (lk:=[]) (asgf:=jz (gC false (cB ns scope.names) 4 target)) (ds:=ds) (S:=(dR scope.names loc,[])) (gg.rep R1 hnn)
   ⟨λ b hb=>have hb:=aH new▸hb;⟨.inr (List.mem_append_left _ hb),λ h=>h.elim (λ e=>old (.tail _ (.head _)) (e▸hb)) λ e=>old (.head _) (e▸hb),λ e=>aN.mpr (e▸(hn b hb).1) R1.size⟩,
    old (.tail _ (.head _)),λ n c hm h=>aN.mpr (hn c h).1 (cellP n c hm)⟩ htp
   (oP okZ hh zc.nm zc.wC (okZ _ zc.wD) zc.dl) (hb _ C D' _ zc)
   (F2.reW _) (A2.reW _) ((aH new).symm▸It2) ((gg.st.trans e).symm▸hkk) ho λ q3 S st3 M e3 F3 A3 hk3=>
    fin q₁ q2 q3 _ C D' _ S.1 S.2 F1 ⟨m,gg,hnn,mC,mD,hCD,M.weaken λ a h=>h.elim (λ h=>h.elim (λ e=>e▸mC) λ e=>e▸mD) (List.mem_append_left _),rfl,F3.reW X.W,A3.reW X.W⟩ (e3.symm▸hk3)
 exact jQ (g:=⟨target,iter,ifs,0⟩) rfl rfl loop (qh (X:=X) It2 rfl loop)
noncomputable def v4(nm:cr)(sc:cr)(target:Expr)(ifs:List Expr)(ci:(List D→St→aD)→aD)(t:Expr→Loc→St→(Bool→St→aD)→aD)(c:Loc→St→(D→St→aD)→aD)(loc:Loc)(k:D→St→aD):aD:=
 ci λ ds st=>eB (jz (gC false nm 4 target)) (oL (fB t ifs) c) ds (dR sc loc,[]) st λ S st'=>k (.lst S.2) st'
theorem tL(hh:X.A.handled=none)(hns:env.scope.names=ns)(R:X.rep p)(F:ax X p env loc){elt target iter:Expr}{ifs:List Expr}{pos:Pos}{tp:Bool}(hk:scope.kind= .function)(co:eU ns scope.names)(hset:jM iter=false)(htp:tp=true→dT target=true){ci:(List D→St→aD)→aD}(hi:SI X.e env p iter tp ci){t:Expr→Loc→St→(Bool→St→aD)→aD}{c:Loc→St→(D→St→aD)→aD}(hp:oX X (cB ns scope.names) ifs elt t c):SE X.e p (eval (.ListComp elt [⟨target,iter,ifs,0⟩] scope pos) env) (λ k=>v4 (cB ns scope.names) scope.names target ifs ci t c loc k):=by
 intro k out hc ho Q E kQ
 rw[arm_eval_ListComp]
 exact lU hh hns R F hk co hset htp hi (λ _ _ _=>kY ..) (yes:=λ D' cenv t=>xG elt (.ref D') cenv t)
  (λ all C D' cenv z=>jT z.ok z.wD z.dl z.dc (λ e' loc q R F=>hp.tests _ _ loc e' q z.nm R (F.reW X.W)) λ loc q R F=>hp.elt _ _ loc q z.nm R (F.reW X.W))
  (k:=λ acc st=>k (.lst acc) st) hc ho λ q₁ q2 q3 all C D' cenv loc' acc _ c hk=>tJ c λ q m e d=>kQ _ q _ _ m e d hk
end
end
section
noncomputable def v8(tests:Loc→St→(Bool→St→aD)→aD)(ci:Loc→St→(List D→St→aD)→aD)(inner:List D→Loc×List D→St→(Loc×List D→St→aD)→aD)(S:Loc×List D)(st:St)(k:Loc×List D→St→aD):aD:=
 tests S.1 st λ b st'=>cond b (ci S.1 st' λ ds st''=>inner ds S st'' k) (k S st')
section
variable{X:Cx}{env:Env}{ns:cr}{p:Pt}{loc:Loc}{scope:Scope}
structure D3(X:Cx)(nm:cr)(iter':Expr)(tp':Bool)(ci:Loc→St→(List D→St→aD)→aD):Prop where
 it:∀(P':Addr→Prop) cenv loc q,cenv.scope.names=nm→(X.withP P').rep q→ax (X.withP P') q cenv loc→SI (X.withP P').e cenv q iter' tp' (ci loc q.st)
theorem ub{Z:Cx}(okZ:Z.ok)(hh:Z.A.handled=none){cenv:Env}{nm:cr}(hnm:cenv.scope.names=nm){D':Addr}(hL:Z.W cenv.locals)(hD:Z.W D')(hDL:D'≠cenv.locals)(hDC:∀n c,(n,c)∈cenv.cells→c≠D'){elt target iter target' iter':Expr}{ifs ifs':List Expr}{sc:Scope}{pos:Pos}{t:Expr→Loc→St→(Bool→St→aD)→aD}{c:Loc→St→(D→St→aD)→aD}{ci:Loc→St→(List D→St→aD)→aD}{tp':Bool}(hset:jM iter'=false)(htp:tp'=true→dT target'=true)(hp:oX Z nm ifs elt t c)(hp':oX Z nm ifs' elt t c)(h2:D3 Z nm iter' tp' ci)(S:Loc×List D)(q:Pt)(R:Z.rep q)(F:ax Z q cenv S.1)(Ac:cP Z q D' S.2)(k:Loc×List D→St→aD)(out:aD)(hc:af (v8 (fB t ifs) ci (λ ds S st k=>eB (jz (gC false nm 4 target')) (oL (fB t ifs') c) ds S st k) S q.st k)=out)(ho:out≠.no)(tr:Sem Fin)(Q:Fin→Shared→Prop)(E:VS)(kQ:∀q' S' st',Z.mv q q'→q'.st=st'→ax Z q' cenv S'.1→cP Z q' D' S'.2→af (k S' st')=out→wpAny Z.m Z.A tr Q E q'.s):
  wpAny Z.m Z.A (i7 ifs cenv) (λ b s'=>if b=true then wpAny Z.m Z.A (Ep (.ListComp elt [⟨target,iter,ifs,0⟩,⟨target',iter',ifs',0⟩] sc pos) iter' (.ref D') cenv tr) Q E s' else wpAny Z.m Z.A tr Q E s') E q.s:=by
 refine kZ (λ e q' R' F'=>hp.tests Z.P cenv S.1 e q' hnm R' F') ifs q R F _ out hc ho _ E λ b q1 st1 m1 e1 hk1=>?_
 have M1:Z.mv q q1:=eO m1
 have F1:ax Z q1 cenv S.1:=F.keepE m1 R
 have A1:cP Z q1 D' S.2:=Ac.keep R m1 (λ _ h=>h.elim) (okZ _ hD) (λ h=>h)
 induction b using Bool.casesOn with
 |false=>exact(aI Bool.false_ne_true).symm▸kQ q1 S st1 M1 e1 F1 A1 hk1
 |true=>
  rw[aZ rfl]
  unfold Ep
  refine aa (bW (h2.it Z.P cenv S.1 q1 hnm M1.rep F1 _ out (e1▸hk1) ho (λ it s₂=>wpAny Z.m Z.A (do let _←runOwn (.compStart (.ListComp elt [⟨target,iter,ifs,0⟩,⟨target',iter',ifs',0⟩] sc pos) 1 it (.ref D') cenv) cenv;tr) Q E s₂) E λ I new q2 q3 ds st m g e hn It hkk=>?_) (λ x s₁ h₁=>?_) λ _ _ h=>h)
  ·have R2:Z.rep q2:=m.rep
   have F2:ax Z q2 cenv S.1:=F1.keepE m M1.rep
   have loop:codeAny Z.m Z.A (.compLoop (.ListComp elt [⟨target,iter,ifs,0⟩,⟨target',iter',ifs',0⟩] sc pos) 1 (.ref I) (.ref D') cenv) (λ r s'=>match r with| .ok f=>wpAny Z.m Z.A tr Q E s'| .error e=>cameBackBy Z.m Z.A cenv E e s') q3.s:=
    iY (X:=Z.plus new) (gp okZ) (D':=D') hD (pF elt target iter target' iter' ifs ifs' sc pos (.ref I) (.ref D') cenv) (its:=new) (lk:=[]) (bodyC:=oL (fB t ifs') c) (asgf:=jz (gC false nm 4 target')) (ds:=ds) (S:=S) (g.rep R2 hn)
     (xA.new okZ R2 F2 hn) htp (oP (gp okZ) hh hnm hL (.inl (okZ _ hD)) hDL)
     (jT (gp okZ) hD hDL hDC (λ e' loc q R F=>hp'.tests _ _ loc e' q hnm R (F.reW Z.W)) λ loc q R F=>hp'.elt _ _ loc q hnm R (F.reW Z.W))
     (F2.plus g hn) ((A1.keep M1.rep m (λ _ h=>h.elim) (okZ _ hD) (λ h=>h)).plus g hn) ((aH new).symm▸It) ((g.st.trans e).symm▸hkk) ho λ q4 S4 st4 M4 e4 F4 A4 hk4=>
      kQ q4 S4 st4 (jw (jw M1 (eO m)) (g.via R2 hn (λ a h=>h) M4)) e4 (F4.unplus F2.pL F2.pC) A4.unplus hk4
   exact aa (wpAny_runOwn (codeAny_mono (jQ (g:=⟨target',iter',ifs',0⟩) rfl rfl loop (qh (X:=Z) It rfl loop)) λ r s' hr=>by cases r<;>exact hr))
  ·refine aa (aX (aa (ch (fw hset cenv x) ?_)))
   show wpAny _ _ (do let it←holding [x] (pyIter x);let _←runOwn (.compStart (.ListComp elt [⟨target,iter,ifs,0⟩,⟨target',iter',ifs',0⟩] sc pos) 1 it (.ref D') cenv) cenv;tr) Q E s₁
   exact aa (aV h₁)
noncomputable def Do(nm:cr)(sc:cr)(target target':Expr)(ifs ifs':List Expr)(ci:(List D→St→aD)→aD)(ci2:Loc→St→(List D→St→aD)→aD)(t:Expr→Loc→St→(Bool→St→aD)→aD)(c:Loc→St→(D→St→aD)→aD)(loc:Loc)(k:D→St→aD):aD:=
 ci λ ds st=>eB (jz (gC false nm 4 target)) (v8 (fB t ifs) ci2 (λ ds S st k=>eB (jz (gC false nm 4 target')) (oL (fB t ifs') c) ds S st k)) ds (dR sc loc,[]) st λ S st'=>k (.lst S.2) st'
theorem tK(hh:X.A.handled=none)(hns:env.scope.names=ns)(R:X.rep p)(F:ax X p env loc){elt target iter target' iter':Expr}{ifs ifs':List Expr}{pos:Pos}{tp tp':Bool}(hk:scope.kind= .function)(co:eU ns scope.names)(hset:jM iter=false)(htp:tp=true→dT target=true)(hset':jM iter'=false)(htp':tp'=true→dT target'=true){ci:(List D→St→aD)→aD}(hi:SI X.e env p iter tp ci){ci2:Loc→St→(List D→St→aD)→aD}{t:Expr→Loc→St→(Bool→St→aD)→aD}{c:Loc→St→(D→St→aD)→aD}(hp:oX X (cB ns scope.names) ifs elt t c)(hp':oX X (cB ns scope.names) ifs' elt t c)(h2:D3 X (cB ns scope.names) iter' tp' ci2):
  SE X.e p (eval (.ListComp elt [⟨target,iter,ifs,0⟩,⟨target',iter',ifs',0⟩] scope pos) env) (λ k=>Do (cB ns scope.names) scope.names target target' ifs ifs' ci ci2 t c loc k):=by
 intro k out hc ho Q E kQ
 rw[arm_eval_ListComp]
 exact lU hh hns R F hk co hset htp hi (λ _ _ _=>pG ..) (yes:=λ D' cenv t=>Ep (.ListComp elt [⟨target,iter,ifs,0⟩,⟨target',iter',ifs',0⟩] scope pos) iter' (.ref D') cenv t)
  (λ all C D' cenv z=>ub z.ok hh z.nm z.wC z.wD z.dl z.dc hset' htp' ⟨λ P' cenv loc e q h R F=>hp.tests P' cenv loc e q h R (F.reW X.W),λ P' cenv loc q h R F=>hp.elt P' cenv loc q h R (F.reW X.W)⟩
   ⟨λ P' cenv loc e q h R F=>hp'.tests P' cenv loc e q h R (F.reW X.W),λ P' cenv loc q h R F=>hp'.elt P' cenv loc q h R (F.reW X.W)⟩ ⟨λ P' cenv loc q h R F=>h2.it P' cenv loc q h R (F.reW X.W)⟩)
  (k:=λ acc st=>k (.lst acc) st) hc ho λ q₁ q2 q3 all C D' cenv loc' acc _ c hk=>tJ c λ q m e d=>kQ _ q _ _ m e d hk
end
end
section
variable{ns:cr}{ps:List Str}{kindOf:Str→Option NameKind}{x:Str}{prog:Program}{w:World}{d:D}{vs:List Value}{p:Pt}
structure Fn where
 params:List Str
 ns:cr
 body:List Stmt
noncomputable def mZ:cr→Bool
 |[]=>true
 |(n,k)::r=>!FZ r n&&(!eW k&&mZ r)
noncomputable def wO(ns:cr):List Str→Bool
 |[]=>true
 |x::r=>uS true ns x&&(!r.any (c7 x)&&wO ns r)
structure rN(ns:cr)(params:List Str):Prop where
 nodup:(ns.map (·.1)).Nodup
 nofree:∀n k,(n,k)∈ns→k≠.free
 pnodup:params.Nodup
 par:∀x∈params,cA ns x=some .local∨cA ns x=some .cell
theorem pW(h:mZ ns=true):(ns.map (·.1)).Nodup∧∀p∈ns,p.2≠.free:=by
 induction ns with
 |nil=>exact⟨.nil,λ _ h=>nomatch h⟩
 |cons p r ih=>
  obtain⟨h1,h⟩:=(Bool.and_eq_true _ _).mp h
  obtain⟨h2,h⟩:=(Bool.and_eq_true _ _).mp h
  have h2:=mG h2
  exact⟨bF.mpr ⟨λ m=>tfK ((sN r p.1).mpr m▸mG h1),(ih h).1⟩,bv.mpr ⟨λ e=>by rw[e]at h2;exact tfK h2,(ih h).2⟩⟩
theorem wN(h:wO ns ps=true):ps.Nodup∧∀x∈ps,cA ns x=some .local∨cA ns x=some .cell:=by
 induction ps with
 |nil=>exact⟨.nil,λ _ h=>nomatch h⟩
 |cons x r ih=>
  obtain⟨h1,h⟩:=(Bool.and_eq_true _ _).mp h
  obtain⟨h2,h⟩:=(Bool.and_eq_true _ _).mp h
  exact⟨bF.mpr ⟨λ hx=>tfK (List.any_eq_true.mpr ⟨x,hx,lu x⟩▸mG h2),(ih h).1⟩,bv.mpr ⟨(wP h1).imp id And.left,(ih h).2⟩⟩
theorem FB(h:mZ ns=true)(h':wO ns ps=true):rN ns ps:=⟨(pW h).1,λ n k m=>(pW h).2 _ m,(wN h').1,(wN h').2⟩
section
variable{prog:Program}{w:World}{A:Around}{s:Shared}
set_option backward.match.sparseCases true in
theorem tR{R:Result→Shared→Prop}{a:Addr}{o:Obj}{fd:FuncData}{body:List Stmt}{vals:List Value}{binds:List (Str×Value)}(hroom:A.depth<recursionLimit)(ho:s.heap.get? a=some o)(hdata:o.data= .func fd)(hlim:s.heap.NoLimit)(hcd:s.heap.CodeRec fd.code fd.qualname)(hbody:fd.body= .stmts body)(hbind:BindsTo s fd ⟨vals,[]⟩ binds)(hclo:fd.closure=[])(hkind:∀x∈binds,fd.scope.names.lookup x.1=some .local∨(fd.scope.names.lookup x.1=some .cell∧((cellsFrom (s.heap.objs.size+1) fd.scope.names []).lookup x.1).isSome=true))(h:∀s₁,InCallC s (callEnvC fd s.heap.objs.size a).locals (bindL (callEnvC fd s.heap.objs.size a).kindOf binds λ _=>none) (callEnvC fd s.heap.objs.size a).cells
    (bindC (callEnvC fd s.heap.objs.size a).kindOf binds λ _=>none) s₁→
   wpAny (model prog w) (A.deeper (callEnvC fd s.heap.objs.size a)) (execs body (callEnvC fd s.heap.objs.size a)) (λ f s'=>R (.ok (.ret (match f with| .ret v=>v|_=>.none))) s')
    (λ e s'=>wpAny (model prog w) (A.deeper (callEnvC fd s.heap.objs.size a)) (leaving (callEnvC fd s.heap.objs.size a) e) (λ _ s''=>R (.error e) s'') (λ e' s''=>R (.error e') s'') s') s₁) (hco:fd.scope.isCoroutine=false) (hgen:fd.scope.isGenerator=false) (hk:fd.scope.kind= .function):
  codeAny (model prog w) A (.call (.ref a) ⟨vals,[]⟩) R s:=by
 refine codeAny_call_function hroom ho hdata hco hgen hbody hcd ?_
 rw[hclo]
 refine hbind _ _ _ _ (wpAny_newFunctionEnv_cells hk hkind λ env he s' x=>?_)
 subst he
 exact⟨hlim.keeps x.toInCall.keep,codeAny_func (h s' x)⟩
end
inductive HR(h₁:Heap)(fa:Addr)(f:Fn):Prop
 |mk (o:Obj) (fd:FuncData) (ho:h₁.get? fa=some o) (hdat:o.data= .func fd) (hbody:fd.body= .stmts f.body) (hns:fd.scope.names=f.ns) (hk:fd.scope.kind= .function) (hco:fd.scope.isCoroutine=false) (hge:fd.scope.isGenerator=false) (hcl:fd.closure=[]) (hgl:fd.globals=mainGlobals) (hbl:fd.builtins=builtinsNs)
  (hcd:h₁.CodeRec fd.code fd.qualname) (hbind:∀vs:List Value,vs.length=f.params.length→∀s:Shared,(∀a o,h₁.get? a=some o→s.heap.get? a=some o)→BindsTo s fd ⟨vs,[]⟩ (f.params.zip vs))
abbrev zT(X:Cx)(fa:Addr)(f:Fn):Prop:=HR X.h₁ fa f
theorem Ci{c:Prop}[Decidable c]{α β:Type}{f g:α→β}{x:α}{y:β}(h1:f x=y)(h2:g x=y):(if c then f else g) x=y:=by
 by_cases h:c
 ·rw[aZ h];exact h1
 ·rw[aI h];exact h2
theorem v9(binds:List (Str×Value)):∀(m:SV),x∉binds.map (·.1)→bindL kindOf binds m x=m x:=by
 induction binds with
 |nil=>exact λ _ _=>rfl
 |cons p r ih=>
  intro m h
  rw[List.map_cons,aJ,not_or]at h
  exact(ih _ h.2).trans (Ci (aI h.1) rfl)
theorem wa(binds:List (Str×Value)):∀(m:SV),x∉binds.map (·.1)→bindC kindOf binds m x=m x:=by
 induction binds with
 |nil=>exact λ _ _=>rfl
 |cons p r ih=>
  intro m h
  rw[List.map_cons,aJ,not_or]at h
  exact(ih _ h.2).trans (Ci rfl (aI h.1))
theorem wq(ps:List Str):∀(vs:List Value),x∈(ps.zip vs).map (·.1)→x∈ps:=by
 induction ps with
 |nil=>exact λ _ h=>nomatch h
 |cons p ps ih=>exact λ vs h=>match vs,h with
  |v::vs,h=>(aJ.mp h).elim (λ e=>e▸aF ..) λ h=>aK _ (ih vs h)
noncomputable def jS:List Str→List D→Loc
 |x::xs,d::ds=>(x,d)::jS xs ds
 |_,_=>[]
theorem z0{c:dW}{ds:List D}(hv:bH prog w c vs ds):∀(ps:List Str) (m cm:SV),ps.Nodup→bD (jS ps ds) x=some d→
  x∈ps∧(kindOf x=some .local→HV prog w c (bindL kindOf (ps.zip vs) m x) d)∧(kindOf x≠some .local→HV prog w c (bindC kindOf (ps.zip vs) cm x) d):=
 hv.ind (motive:=λ vs ds _=>∀(ps:List Str) (m cm:SV),ps.Nodup→bD (jS ps ds) x=some d→
  x∈ps∧(kindOf x=some .local→HV prog w c (bindL kindOf (ps.zip vs) m x) d)∧(kindOf x≠some .local→HV prog w c (bindC kindOf (ps.zip vs) cm x) d))
  (λ ps _ _ _ h=>by induction ps using List.casesOn<;>exact nsK h) λ {v d' vs ds} h1 hr ih ps m cm hn h=>by
   induction ps using List.casesOn with
   |nil=>exact nsK h
   |cons p ps=>
    have hn:=bF.mp hn
    have h:=(b9 ..).symm.trans h
    by_cases e:p=x
    ·subst e
     obtain rfl:=an ((aZ rfl).symm.trans h)
     have hnm:p∉(ps.zip vs).map (·.1):=λ h=>hn.1 (wq ps vs h)
     exact⟨aF ..,λ hl=>⟨v,(v9 _ _ hnm).trans (by rw[aZ hl];exact aZ rfl),h1⟩,λ hl=>⟨v,(wa _ _ hnm).trans (by rw[aI hl];exact aZ rfl),h1⟩⟩
    ·exact⟨aK _ (ih ps m cm hn.2 ((aI e).symm.trans h)).1,(ih ps _ _ hn.2 ((aI e).symm.trans h)).2⟩
theorem i5(n:Nat)(p:Str×NameKind)(r:cr)(acc:List (Str×Addr)):(p.2= .cell∧cellsFrom n (p::r) acc=cellsFrom (n+1) r ((p.1,n)::acc))∨(p.2≠.cell∧cellsFrom n (p::r) acc=cellsFrom n r acc):=by
 obtain⟨m,k⟩:=p
 induction k using NameKind.casesOn with
 |cell=>exact .inl ⟨rfl,rfl⟩
 |_=>exact .inr ⟨nofun,rfl⟩
theorem i4(names:cr):∀(n:Nat) (acc:List (Str×Addr)),(x,NameKind.cell)∈names∨(acc.lookup x).isSome=true→((cellsFrom n names acc).lookup x).isSome=true:=by
 induction names with
 |nil=>exact λ _ _ h=>h.elim nofun id
 |cons p r ih=>
  intro n acc h
  obtain⟨hk,e⟩|⟨hk,e⟩:=i5 n p r acc
  ·rw[e]
   refine ih _ _ ?_
   by_cases q:x=p.1
   ·exact .inr (by rw[List.lookup_cons,q,beq_self_eq_true];rfl)
   ·exact h.imp (λ h=>(aJ.mp h).elim (λ e=>absurd (ae Prod.fst e) q) id) λ h=>by rw[List.lookup_cons,beq_eq_false_iff_ne.mpr q];exact h
  ·rw[e]
   exact ih _ _ (h.imp (λ h=>(aJ.mp h).elim (λ e=>absurd (ae Prod.snd e).symm hk) id) id)
theorem mK(names:cr):∀(n:Nat) (acc:List (Str×Addr)),(names.map (·.1)).Nodup→(acc.map (·.1)).Nodup→(∀x∈acc.map (·.1),x∉names.map (·.1))→((cellsFrom n names acc).map (·.1)).Nodup:=by
 induction names with
 |nil=>exact λ _ _ _ h _=>h
 |cons p r ih=>
  intro n acc hn ha hd
  have hn:=bF.mp hn
  have hd' n h1 h2:=hd n h1 (aK _ h2)
  obtain⟨_,e⟩|⟨_,e⟩:=i5 n p r acc
  ·exact e▸ih _ _ hn.2 (bF.mpr ⟨λ h=>hd _ h (aF ..),ha⟩) (bv.mpr ⟨hn.1,hd'⟩)
  ·exact e▸ih _ _ hn.2 ha hd'
theorem pw{l:List (Str×Addr)}{c:Addr}:(l.map (·.1)).Nodup→(x,c)∈l→l.lookup x=some c:=by
 induction l with
 |nil=>exact λ _ h=>nomatch h
 |cons p r ih=>
  intro hn h
  have hn:=bF.mp hn
  rcases aJ.mp h with e|h
  ·subst e;exact List.lookup_cons_self
  ·rw[List.lookup_cons,beq_eq_false_iff_ne.mpr λ e:x=p.1=>hn.1 (aS.mpr ⟨_,h,e⟩)];exact ih hn.2 h
noncomputable def GC(X:Cx)(p:Pt)(f:Value)(vs:List Value)(d:D)(st:St):Prop:=
 ∀(Q:VS) (E:VS),(∀a q,X.mv p q→q.st=st→X.den q a d→Q a q.s)→codeAny X.m X.A (.call f ⟨vs,[]⟩) (wants Q E) p.s
theorem GC.ga{X:Cx}{f:Value}{st:St}(h:GC X p f vs d st):GA X X.den p (call f vs) d st:=λ Q E k=>gj (h Q E k)
noncomputable def Cx.inCall(X:Cx)(env:Env):Cx:={X with A:=X.A.deeper env,P:=more X.P (env.locals::env.cells.map (·.2)),W:=λ a=>a∈env.locals::env.cells.map (·.2)}
abbrev zP(env:Env):List Addr:=env.locals::env.cells.map (·.2)
structure rS(s s₁:Shared)(env:Env)(f:Fn)(vs:List Value):Prop where
 loc:env.locals=s.heap.objs.size
 names:env.scope.names=f.ns
 keep:∀a o,s.heap.get? a=some o→s₁.heap.get? a=some o
 alive:∀b∈zP env,s.heap.objs.size≤b∧b<s₁.heap.objs.size
 only:∃h' tk,s₁={s with heap:=h',toks:=tk}
 fr:env.frame=some env.locals
 envAt:∀(X:Cx) (ρ:Nat→Addr×Addr) (st:St) (ds:List D),(∀b∈zP env,X.P b)→bH X.prog X.w (Pt.cfg X.P ⟨s₁,ρ,st⟩) vs ds→ax X ⟨s₁,ρ,st⟩ env (jS f.params ds)
theorem uf{env:Env}{b:Bool}:kc b env λ a=>a∈zP env:=⟨aF ..,λ _ n c hm _=>aK _ (aS.mpr ⟨(n,c),hm,rfl⟩)⟩
theorem j6{A:Around}{s:Shared}{h₁:Heap}(hroom:A.depth<recursionLimit)(hlim:s.heap.NoLimit)(keep:∀a o,h₁.get? a=some o→s.heap.get? a=some o){fa:Addr}{f:Fn}(hf:HR h₁ fa f)(ok:rN f.ns f.params){vs:List Value}(hvl:vs.length=f.params.length){R:Result→Shared→Prop}(h:∀env s₁,rS s s₁ env f vs→∀(r:Flow→Value),(∀v,r (.ret v)=v)→r .next= .none→wpAny (model prog w) (A.deeper env) (execs f.body env) (λ f s'=>R (.ok (.ret (r f))) s')
    (λ e s'=>wpAny (model prog w) (A.deeper env) (leaving env e) (λ _ s''=>R (.error e) s'') (λ e' s''=>R (.error e') s'') s') s₁):codeAny (model prog w) A (.call (.ref fa) ⟨vs,[]⟩) R s:=by
 obtain⟨o,fd,ho,hdat,hbody,hns,hk,hco,hge,hcl,hgl,hbl,hcd,hbind⟩:=hf
 have kinds x:(callEnvC fd s.heap.objs.size fa).kindOf x=cA f.ns x:=cW hns x
 refine tR hroom (keep _ _ ho) hdat hlim (hcd.keeps keep) hbody (hbind vs hvl _ keep) hcl (λ x hx=>?_) (λ s₁ x=>?_) hco hge hk
 ·have:=ok.par x.1 (wq f.params vs (aS.mpr ⟨x,hx,rfl⟩))
  rw[show cA f.ns x.1=_ from fS _ _]at this
  rw[hns]
  exact this.imp id λ h=>⟨h,i4 _ _ _ (.inl (kF ((fS ..).trans h)))⟩
 have hnd:((callEnvC fd s.heap.objs.size fa).cells.map (·.1)).Nodup:=mK _ _ _ (hns▸ok.nodup) .nil λ _ h=>nomatch h
 refine h _ s₁ ⟨rfl,hns,x.toInCall.keep,bv.mpr ⟨⟨aq _,x.toInCall.ns.lt⟩,λ b hb=>?_⟩,?_,rfl,λ X ρ st ds hP hv=>?_⟩ _ (λ _=>rfl) rfl
 ·obtain⟨⟨n,c⟩,hm,rfl⟩:=aS.mp hb
  obtain⟨oc,hoc,_⟩:=x.cell n c (pw hnd hm)
  exact⟨bJ (x.above n c hm),az hoc⟩
 ·obtain⟨h',tk,e,_⟩:=x.done
  exact⟨h',tk,e⟩
 ·have zb {y d} (hy:bD (jS f.params ds) y=some d):=z0 (kindOf:=(callEnvC fd s.heap.objs.size fa).kindOf) hv f.params (λ _=>none) (λ _=>none) ok.pnodup hy
  refine⟨hk,hgl,hbl,⟨_,x.toInCall.ns,λ y d hy hl=>(zb hy).2.1 hl⟩,λ y hy=>?_,λ y d hy=>?_,hP _ (aF ..),λ n c hm=>hP _ (aK _ (aS.mpr ⟨(n,c),hm,rfl⟩)),x.apart,λ n c hm=>bM (x.above n c hm)⟩
  ·have hcellk:(callEnvC fd s.heap.objs.size fa).kindOf y=some .cell:=hy.elim id λ h=>absurd rfl (ok.nofree y _ (kF ((kinds y).symm.trans h)))
   obtain⟨c,hq⟩:=Option.isSome_iff_exists.mp (i4 fd.scope.names (s.heap.objs.size+1) [] (.inl (hns▸kF ((kinds y).symm.trans hcellk))))
   exact⟨c,_,hq,x.cell y c hq,λ d hd=>(zb hd).2.2 (hcellk▸nofun)⟩
  ·rw[kinds]
   exact(ok.par y (zb hy).1).imp id .inl
theorem rS.grown{s₁:Shared}{env:Env}{f:Fn}(F:rS p.s s₁ env f vs):cu p ⟨s₁,p.ρ,p.st⟩:=by
 obtain⟨h',tk,rfl⟩:=F.only
 exact⟨F.keep,bJ (aA (F.alive _ (aF ..)).1 (F.alive _ (aF ..)).2),rfl,rfl,rfl,rfl,rfl⟩
section
variable{X:Cx}{p:Pt}
theorem Hs(hh:X.A.handled=none)(hroom:X.A.depth<recursionLimit)(hlim:X.h₁.NoLimit)(R:X.rep p){fa:Addr}{f:Fn}(hf:zT X fa f)(ok:rN f.ns f.params){vs:List Value}{ds:List D}(hv:X.denL p vs ds)(hlen:ds.length=f.params.length){bodyC:(Loc→St→aD)→aD}{d:D}{st:St}(hc:af (bodyC (λ _ st=>.val .none st))= .val d st)(hb:∀(env:Env) (q:Pt),q.st=p.st→env.scope.names=f.ns→kc true env (X.inCall env).W→(X.inCall env).ok→(X.inCall env).rep q→ax (X.inCall env) q env (jS f.params ds)→SS (X.inCall env) env q (execs f.body env) bodyC):
  GC X.e p (.ref fa) vs d st:=by
 intro Q E kQ
 refine j6 hroom (hlim.keeps R.keep) R.keep hf ok (hv.length.trans hlen) λ env s₁ F r r1 r2=>?_
 have g:=F.grown
 refine hb env ⟨s₁,p.ρ,p.st⟩ rfl F.names uf (λ a h=>.inr h) (g.rep R F.alive) (F.envAt _ _ _ _ (λ b h=>.inr h) (hv.mono (g.cfg F.alive))) _ _ hc nofun _ _ (λ q loc' st' m e' F' hk'=>?_) λ v q d' st' m e' hv' hout=>?_
 ·obtain⟨rfl,rfl⟩:=aD.valI hk'
  rw[r2]
  exact kQ .none q (g.via R F.alive (λ a h=>.inr h) m) e' .none
 ·obtain⟨rfl,rfl⟩:=aD.valI hout
  rw[r1]
  exact kQ v q (g.via R F.alive (λ a h=>.inr h) m) e' (b8.mono hv' (dM λ _ h=>.inl h))
end
end
section
variable{σ:List (Nat×aY)}{f:D→Option D}
noncomputable def jY(f:D→Option D):List (D×D)→Option (List (D×D))
 |[]=>some []
 |p::r=>(f p.2).bind λ d=>(jY f r).map ((p.1,d)::·)
noncomputable def KF(fl:List D→Option (List D))(fp:List (D×D)→Option (List (D×D))):aY→Option D
 | .list ds=>(fl ds).map .lst
 | .dict es=>(fp es).map .dct
 |_=>none
noncomputable def KG(σ:List (Nat×aY))(fl:List D→Option (List D))(fp:List (D×D)→Option (List (D×D))):D→Option D
 | .none=>some .none
 | .bool b=>some (.bool b)
 | .int i=>some (.int i)
 | .str x=>some (.str x)
 | .val v=>some (.val v)
 | .tup ds=>(fl ds).map .tup
 | .lst ds=>(fl ds).map .lst
 | .dct es=>(fp es).map .dct
 | .ob i=>(aW σ i).bind (KF fl fp)
 | .meth _ _=>none
noncomputable def frz(σ:List (Nat×aY)):Nat→D→Option D
 |0=>KG σ (λ _=>none) λ _=>none
 |n+1=>KG σ (cq (frz σ n)) (jY (frz σ n))
section
variable{prog:Program}{w:World}{c c':dW}
theorem kA(h:∀v d,b8 prog w c v d→b6 (b8 prog w c' v) (f d)){vs:List Value}{ds:List D}(hv:bH prog w c vs ds):b6 (bH prog w c' vs) (cq f ds):=
 hv.ind (motive:=λ vs ds _=>b6 (bH prog w c' vs) (cq f ds)) .nil λ h1 _ ih=>.bind ((h _ _ h1).mono λ _ hy=>.map (ih.mono λ _ hs=>.cons hy hs))
theorem sQ(h:∀v d,b8 prog w c v d→b6 (b8 prog w c' v) (f d)){vs:List (cv×Value)}{ds:List (D×D)}(hv:dg prog w c vs ds):b6 (dg prog w c' vs) (jY f ds):=
 hv.ind (motive:=λ vs ds _=>b6 (dg prog w c' vs) (jY f ds)) .nil λ h1 _ ih=>.bind ((h _ _ h1).mono λ _ hy=>.map (ih.mono λ _ hs=>.cons hy hs))
theorem tq{fl:List D→Option (List D)}{fp:List (D×D)→Option (List (D×D))}(hh:c'.h=c.h)(up:∀a,¬c.U a→¬c'.U a)(ho:∀i o,aW σ i=some o→¬c'.U (c.ρ i).1∧((c.ρ i).1==sysModules)=false∧fO prog w c (c.ρ i) o)(hl:∀vs ds,bH prog w c vs ds→b6 (bH prog w c' vs) (fl ds))(hp:∀vs ds,dg prog w c vs ds→b6 (dg prog w c' vs) (fp ds)){v:Value}{d:D}(hd:b8 prog w c v d):b6 (b8 prog w c' v) (KG σ fl fp d):=by
 induction hd using b8.casesOn with
 |none=>exact .none
 |bool b=>exact .bool b
 |int i t=>exact .int i t
 |str x t=>exact .str x t
 |val v=>exact .val v
 |tup ho hc hdt hu hi=>exact .map ((hl _ _ hi).mono λ _ h=>.tup (hh▸ho) hc hdt (up _ hu) h)
 | @lst _ _ _ _ _ hn ho hc hdt hu hi=>exact .map ((hl _ _ hi).mono λ _ h=>.lst (hn:=hn) (hh▸ho) hc hdt (up _ hu) h)
 |dct hm hu hi lo=>exact .map ((hp _ _ hi).mono λ _ h=>.dct (hh▸hm) (up _ hu) h lo)
 |ob i hi=>
  refine .bind (.all λ o he=>?_)
  obtain⟨hu,lo,O⟩:=ho i o he
  induction o using aY.casesOn with
  |list ds=>obtain⟨_,_,e,ho,hi⟩:=O;exact .map ((hl _ _ hi).mono λ _ h=>.lst (hn:=rfl) (hh▸ho) rfl rfl hu h)
  |dict es=>obtain⟨_,e,hm,hi⟩:=O;exact .map ((hp _ _ hi).mono λ _ h=>.dct (hh▸hm) hu h lo)
  |_=>exact ag
 |meth=>exact ag
theorem xe(hh:c'.h=c.h)(up:∀a,¬c.U a→¬c'.U a)(ho:∀i o,aW σ i=some o→¬c'.U (c.ρ i).1∧((c.ρ i).1==sysModules)=false∧fO prog w c (c.ρ i) o)(n:Nat):∀v d,b8 prog w c v d→b6 (b8 prog w c' v) (frz σ n d):=by
 induction n with
 |zero=>exact λ _ _=>tq (fl:=λ _=>none) (fp:=λ _=>none) hh up ho (λ _ _ _=>ag) λ _ _ _=>ag
 |succ n ih=>exact λ _ _=>tq hh up ho (λ _ _=>kA ih) λ _ _=>sQ ih
theorem rl(hh:c'.h=c.h)(up:∀a,¬c.U a→¬c'.U a)(n:Nat)(v:Value)(d:D)(hd:b8 prog w c v d):b6 (b8 prog w c' v) (frz [] n d):=xe hh up (λ _ _=>nsK) n v d hd
theorem xf{h₁:Heap}{P:Addr→Prop}{p:Pt}(R:dJ prog w h₁ P p)(hs:sysModules<h₁.objs.size)(hh:c'.h=p.s.heap)(hU:∀a,c'.U a→P a)(n:Nat)(v:Value)(d:D)(hd:b8 prog w (p.cfg P) v d):b6 (b8 prog w c' v) (frz p.st.σ n d):=
 xe (c:=p.cfg P) hh (λ a h g=>h (Or.inr (hU a g))) (λ i o h=>⟨λ g=>(R.own i _ h).1 (hU _ g),beq_eq_false_iff_ne.mpr (bM (dH hs (R.new i _ h).1)),R.obj i o h⟩) n v d hd
end
noncomputable def Pt.bare(p:Pt):Pt:=⟨p.s,p.ρ,⟨[],0⟩⟩
section
variable{prog:Program}{w:World}{h₁:Heap}{P W:Addr→Prop}{p q:Pt}
theorem u7(a:Addr):¬fT p.bare.ρ p.bare.st.σ a:=λ ⟨_,_,hi,_⟩=>nsK hi
theorem DO(a:Addr)(h:p.bare.U P a):P a:=h.elim (λ h=>absurd h (u7 a)) id
theorem dJ.bare(R:dJ prog w h₁ P p){P':Addr→Prop}(ht:P' h₁.objs.size)(hP:∀a,P' a→P a∨fT p.ρ p.st.σ a):dJ prog w h₁ P' p.bare where
 keep:=R.keep
 size:=R.size
 top:=ht
 lt':=λ _ _=>nsK
 obj:=λ _ _=>nsK
 new:=λ _ _=>nsK
 own:=λ _ _=>nsK
 sep:=λ _ _ _ _=>nsK
 priv:=λ a h=>(hP a h).elim (R.priv a) λ ⟨i,o,hi,he⟩=>he.elim (λ e=>e▸⟨(R.lt hi).1,bJ (R.new i o hi).1⟩) λ e=>e▸⟨(R.lt hi).2,bJ (R.new i o hi).2⟩
theorem dJ.back(R:dJ prog w h₁ P p){P':Addr→Prop}(hPP:∀a,P a→P' a)(hW:∀a,W a→P a)(m:Mv prog w h₁ P' W p.bare q):Mv prog w h₁ P W p ⟨q.s,p.ρ,p.st⟩:=by
 have keep {a o} (hP:¬P a) (h:p.s.heap.get? a=some o):q.s.heap.get? a=some o:=m.sameX h (u7 a) (λ h=>hP (hW a h)) λ e=>hP (e▸R.top)
 exact⟨⟨m.rep.keep,m.rep.size,R.top,R.lt',λ i o hi=>(R.obj i o hi).mono ⟨λ a o ho hu=>⟨keep (λ h=>hu (.inr h)) ho,hu⟩,λ _ _=>rfl,aq _⟩ (λ _=>keep (R.own i o hi).1) λ _=>keep (R.own i o hi).2,R.new,R.own,R.sep,λ a h=>m.rep.priv a (hPP a h)⟩,
  m.gens,m.drawn,m.os,m.size,λ a o h _ hw=>m.same a o h (u7 a) hw,λ _ _=>rfl,aq _,λ i o h=>.inl ⟨R.lt' i o h,o,h⟩⟩
end
noncomputable def jo:D→Bool
 | .none=>true
 | .bool _=>true
 | .int _=>true
 | .str _=>true
 |_=>false
theorem qv{prog:Program}{w:World}{c c':dW}{v:Value}{d:D}(h:jo d=true)(hv:b8 prog w c v d):b8 prog w c' v d:=by
 revert h
 induction hv using b8.casesOn with
 |none=>exact λ _=>.none
 |bool b=>exact λ _=>.bool b
 |int i t=>exact λ _=>.int i t
 |str x t=>exact λ _=>.str x t
 |_=>exact ftK
section
variable{X:Cx}{p:Pt}
theorem zH(R:X.rep p)(hs:sysModules<X.h₁.objs.size){fv:Value}{vs:List Value}{ds ds':List D}(hv:X.denL p vs ds)(hz:cq (frz p.st.σ 12) ds=some ds'){d:D}{st:St}(h:X.rep p.bare→X.denL p.bare vs ds'→GC X.e p.bare fv vs d st)(hd:jo d=true):GC X.e p fv vs d p.st:=λ Q E kQ=>
 h (dJ.bare R R.top λ a h=>.inl h) (aT (P:=X.denL p.bare vs) (kA (xf (c':=p.bare.cfg X.P) R hs rfl DO 12) hv) hz) Q E λ v q m e hvd=>
  kQ v ⟨q.s,p.ρ,p.st⟩ (dJ.back R (λ _ h=>h) (λ _ h=>h.elim) m) rfl (qv hd hvd)
theorem tQ(R:X.rep p)(hs:sysModules<X.h₁.objs.size){fv:Value}{vs:List Value}{ds ds':List D}(hv:X.denL p vs ds)(hz:cq (frz [] 12) ds=some ds'){d d':D}{st:St}(h:∀P':Addr→Prop,(∀a,X.P a→P' a)→(X.withP P').rep p.bare→(X.withP P').denL p.bare vs ds'→GC (X.withP P').e p.bare fv vs d st)(hd:frz st.σ 12 d=some d'):GC X.e p fv vs d' p.st:=λ Q E kQ=>
 let P':Addr→Prop:=λ a=>X.P a∨fT p.ρ p.st.σ a
 h P' (λ _ h=>.inl h) (dJ.bare R (.inl R.top) λ a h=>h) (aT (P:=(X.withP P').denL p.bare vs) (kA (rl (c:=p.cfg X.P) (c':=p.bare.cfg P') rfl (λ a hu h=>hu ((DO a h).symm.imp id id)) 12) hv) hz) Q E λ v q m e hvd=>
  kQ v ⟨q.s,p.ρ,p.st⟩ (dJ.back R (λ _ h=>.inl h) (λ _ h=>h.elim) m) rfl
   (aT (P:=b8 X.prog X.w _ v) (xf (c':=Pt.cfg X.P ⟨q.s,p.ρ,p.st⟩) (P:=P') m.rep hs rfl (λ a h=>h.elim .inr .inl) 12 v d hvd) (e▸hd))
end
end
section
inductive Ty where
 |int|bool|str|tuple|list
noncomputable def Ty.name:Ty→String
 | .int=> "int"| .bool=> "bool"| .str=> "str"| .tuple=> "tuple"| .list=> "list"
noncomputable def Eh(u:Ty)(t:Ty):Bool:=match u with
 | .int=>(match t with| .int=>true|_=>false)
 | .bool=>(match t with| .int=>true| .bool=>true|_=>false)
 | .str=>(match t with| .str=>true|_=>false)
 | .tuple=>(match t with| .tuple=>true|_=>false)
 | .list=>(match t with| .list=>true|_=>false)
noncomputable def Kt(t:Ty):D→Option Bool
 | .none=>some false
 | .bool _=>some (Eh .bool t)
 | .int _=>some (Eh .int t)
 | .str _=>some (Eh .str t)
 | .tup _=>some (Eh .tuple t)
 | .lst _=>some (Eh .list t)
 |_=>none
theorem fQ(t:Ty):typeOf (.type t.name)=pure (.type "type"):=by induction t using Ty.casesOn<;>exact(by kernel_rfl:typeOf (.type _)=_)
theorem iG(t:Ty):isSubtype (.type "NoneType") (.type t.name)=pure false:=(isSubtype_type ..).trans (by induction t using Ty.casesOn<;>kernel_rfl)
theorem fA(u t:Ty):isSubtype (.type u.name) (.type t.name)=pure (Eh u t):=(isSubtype_type ..).trans (by induction u using Ty.casesOn<;>induction t using Ty.casesOn<;>kernel_rfl)
theorem fM(K:String)(t:Ty)(h:t.name≠K):(Value.type K==Value.type t.name)=false:=beq_eq_false_iff_ne.mpr λ e=>h (Value.type.inj e).symm
theorem Ez(t:Ty):t.name≠"NoneType":=by induction t using Ty.casesOn<;>decide
theorem Ey{u t:Ty}(e:u.name=t.name):Eh u t=true:=by revert e;induction u using Ty.casesOn<;>induction t using Ty.casesOn<;>decide
section
variable{X:Cx}{p:Pt}{v:Value}{d:D}{b:Bool}
theorem Ks(R:X.rep p)(t:Ty)(hv:X.den p v d)(h:Kt t d=some b):GA X.e X.den p (call (.builtin "isinstance") [v,.type t.name]) (.bool b) p.st:=λ Q E kQ=>by
 have K {u:Ty} (T:p.s.TypeIs v u.name) (F:u.name≠t.name→isSubtype (.type u.name) (.type t.name)=pure false→Q (.bool false) {p.s with toks:=p.s.toks+1}→wpAny X.m X.A (call (.builtin "isinstance") [v,.type t.name]) Q E p.s):Q (.bool (Eh u t)) p.s→Q (.bool (Eh u t)) {p.s with toks:=p.s.toks+1}→wpAny X.m X.A (call (.builtin "isinstance") [v,.type t.name]) Q E p.s:=by
  induction hb:Eh u t using Bool.casesOn with
  |true=>exact λ k0 _=>call_isinstance (isinstance_true (fQ t) ((fA u t).trans (ae pure hb))) ⟨T,k0⟩
  |false=>exact λ _=>F (λ e=>tfK ((Ey e).symm.trans hb)) ((fA u t).trans (ae pure hb))
 refine aT (o:=Kt t d) (P:=λ b=>Q (.bool b) p.s→Q (.bool b) {p.s with toks:=p.s.toks+1}→wpAny X.m X.A (call (.builtin "isinstance") [v,.type t.name]) Q E p.s) ?_ h (kQ _ p (Mv.refl R) rfl (.bool b)) (kQ _ ⟨_,p.ρ,p.st⟩ (Mv.tick R) rfl (.bool b))
 clear h kQ
 induction hv using b8.casesOn with
 |none=>exact λ _=>call_isinstance (isinstance_false_none (fM _ t (Ez t)) (fQ t) (iG t))
 |bool x=>exact K (u:= .bool) rfl λ n e=>call_isinstance (isinstance_false_bool (fM _ t n.symm) (fQ t) e)
 |int i t'=>exact K (u:= .int) rfl λ n e=>call_isinstance (isinstance_false_int (fM _ t n.symm) (fQ t) e)
 |str x t'=>exact K (u:= .str) rfl λ n e=>call_isinstance (isinstance_false_str (fM _ t n.symm) (fQ t) e)
 |tup ho hc hd hu hi=>exact K (u:= .tuple) ⟨_,ho,hc⟩ λ n e k=>call_isinstance (isinstance_false_tuple (fM _ t n.symm) (fQ t) e) ⟨⟨_,ho,hc⟩,k⟩
 |lst ho hc hd hu hi=>exact K (u:= .list) ⟨_,ho,hc⟩ λ n e k=>call_isinstance (isinstance_false_list (fM _ t n.symm) (fQ t) e) ⟨⟨_,ho,hc⟩,k⟩
 |_=>exact ag
end
end
section
noncomputable def D.int?:D→Option Int
 | .int i=>Option.some i
 |_=>Option.none
theorem b6.int{prog:Program}{w:World}{c:dW}{v:Value}{a:D}(ha:b8 prog w c v a){α:Type}{P:Value→α→Prop}{f:Int→Option α}(k:∀i t,b6 (P (.int i t)) (f i)):b6 (P v) (a.int?.bind f):=by
 induction ha using b8.casesOn with
 |int i t=>exact k i t
 |_=>exact ag
noncomputable def tW:Bool→Int
 |true=>1
 |false=>0
noncomputable def qF(a:Int):Bool:=match a with
 | .ofNat n=>Nat.blt n 1000000
 |_=>false
noncomputable def A8(a:Int):Bool:=match a with
 | .ofNat n=>Nat.blt 0 n&&Nat.blt n 1000000
 |_=>false
theorem je{a:Int}(h:qF a=true):0≤a∧a<1000000:=by
 induction a using Int.casesOn with
 |ofNat n=>exact⟨Int.natCast_nonneg _,Int.ofNat_lt.mpr (bp.mp h)⟩
 |negSucc n=>exact ftK h
theorem qJ{a:Int}(h:A8 a=true):0<a∧a<1000000:=by
 induction a using Int.casesOn with
 |ofNat n=>exact((Bool.and_eq_true _ _).mp h).imp (λ h=>Int.ofNat_lt.mpr (bp.mp h)) λ h=>Int.ofNat_lt.mpr (bp.mp h)
 |negSucc n=>exact ftK h
noncomputable def N1(op:Operator)(i j:Int):Option Int:=match op with
 | .Add=>some (i+j)
 | .Sub=>some (i-j)
 | .Mult=>cond (qF i) (some (i*j)) none
 | .Mod=>cond (A8 j) (some (i.fmod j)) none
 | .FloorDiv=>cond (A8 j) (some (i.fdiv j)) none
 | .LShift=>cond (qF i) (cond (qF j) (some (i*2^j.toNat)) none) none
 |_=>none
noncomputable def O3(op:Operator)(i j:Bool):Option D:=match op with
 | .Sub=>some (.int (tW i-tW j))
 |_=>none
noncomputable def Lf(op:Operator)(a b:D):Option D:=match a with
 | .int i=>b.int?.bind λ j=>(N1 op i j).map .int
 | .bool i=>(match b with
  | .bool j=>O3 op i j
  |_=>none)
 |_=>none
section
variable{X:Cx}{p:Pt}{v u:Value}{a b d:D}{k:Bool}
theorem H1(R:X.rep p){Q:VS}(kQ:∀v q,X.mv p q→q.st=p.st→X.den q v d→Q v q.s){w:Value}(hw:∀c,b8 X.prog X.w c w d)(n:Nat):Q w {p.s with toks:=n}:=
 kQ w ⟨{p.s with toks:=n},p.ρ,p.st⟩ (Mv.tick R) rfl (hw _)
theorem Hx(R:X.rep p){op:Operator}{i j:Int}{t t':Tok}:b6 (λ r=>GA X X.den p (binaryOp op (.int i t) (.int j t')) (.int r) p.st) (N1 op i j):=by
 have K {Q:VS} {r:Int} (k:∀v q,X.mv p q→q.st=p.st→X.den q v (.int r)→Q v q.s) (t n):Q (.int r t) {p.s with toks:=n}:=H1 R k (λ _=>.int _ _) n
 have B {a:Int} (h:0≤a∧a<1000000):a.natAbs<2^64:=by omega
 induction op using Operator.casesOn with
 |Add=>exact λ Q E k=>PySem.P.add_int (K k _ _)
 |Sub=>exact λ Q E k=>PySem.P.sub_int (K k _ _)
 |Mult=>exact .cond λ h Q E k=>PySem.P.mul_int (K k _ _) (IntMulOk.of_left (intBits_le (B (je h))))
 |Mod=>exact .cond λ h Q E k=>mod_int' (Int.ne_of_gt (qJ h).1) (K k _ _)
 |FloorDiv=>exact .cond λ h Q E k=>AutoIntOps.floordiv_1 (by have:=qJ h;simp;omega) (by rw[PyProof.noPylong_small (by have:=qJ h;omega)];decide) (K k _ _)
 |LShift=>exact .cond λ h=>.cond λ h' Q E k=>lshift_int_small (je h').1 (Int.le_of_lt (je h').2) (B (je h)) (K k _ _)
 |_=>exact ag
theorem Ld(R:X.rep p){op:Operator}(ha:X.den p v a)(hb:X.den p u b)(h:Lf op a b=some d):GA X X.den p (binaryOp op v u) d p.st:=by
 refine aT (o:=Lf op a b) (P:=λ d=>GA X X.den p (binaryOp op v u) d p.st) ?_ h
 clear h
 induction ha using b8.casesOn with
 |int i t=>apply b6.int hb;exact λ j t'=>.map (Hx R)
 |bool x=>induction hb using b8.casesOn with
  |bool y=>induction op using Operator.casesOn with
   |Sub=>
    refine λ Q E kQ=>sub_bool ?_
    rw[show b2i x-b2i y=tW x-tW y by cases x<;>cases y<;>rfl]
    exact H1 R kQ (λ _=>.int _ _) _
   |_=>exact ag
  |_=>exact ag
 |_=>exact ag
theorem Ft{o:Obj}{c:Value}{d:Data}(hc:o.cls=c)(hd:o.data=d):o=⟨c,o.dict,d,o.slots⟩:=by subst hc hd;rfl
inductive Qh(X:Cx)(p:Pt)(v:Value)(ds:List D):Prop
 |mk (l:Addr) (o:Obj) (xs:Array Value) (m:Nat) (e:v= .ref l) (ho:p.s.heap.get? l=some ⟨.type "list",o.dict,.seq xs m,o.slots⟩) (hi:X.denL p xs.toList ds)
theorem km{xs:List D}(hs:ed X p v xs)(hl:p.s.TypeIs v "list"):Qh X p v xs:=by
 induction hs using ed.casesOn with
 |list e ho hc hd hi=>exact⟨_,_,_,_,e,Ft hc hd▸ho,hi⟩
 |tuple e ho hc hd hi=>
  subst e
  obtain⟨o2,ho2,hc2⟩:=hl
  obtain rfl:=an (ho.symm.trans ho2)
  exact absurd (hc.symm.trans hc2) (by decide)
theorem zA(R:X.rep p){xs ys:List D}(ha:ed X p v xs)(hb:ed X p u ys)(hla:p.s.TypeIs v "list")(hlb:p.s.TypeIs u "list")(hsz:xs.length+ys.length≤sizeLine):GA X X.den p (binaryOp .Add v u) (.lst (xs++ys)) p.st:=by
 obtain⟨l,o,vs,m,rfl,ho,hi⟩:=km ha hla
 obtain⟨l',o',ws,m',rfl,ho',hi'⟩:=km hb hlb
 exact λ Q E kQ=>concat_meets ⟨_,ho,rfl⟩ ⟨_,ho',rfl⟩ noFill_list_add seq_list_add PySem.F.slot_list_add PySem.F.entry_list_add (PySem.F.args_list_add_2 _ _) (list_addW l l' vs ws m m' o.dict o'.dict o.slots o'.slots (by rw[hi.size,hi'.size];exact hsz))
  ⟨ho,ho',kQ _ (p.pushO _) (Mv.push R _) rfl (.lst (hn:=rfl) (Heap.get?_push_size _ rfl) rfl rfl R.new_U (by rw[Array.toList_append];exact(hi.mono hV).append (hi'.mono hV)))⟩
noncomputable def PX(op:CmpOp)(i j:Int):Option Bool:=match op with
 | .Lt=>some (decide (i<j))
 | .LtE=>some (decide (i≤j))
 | .Gt=>some (decide (i>j))
 | .GtE=>some (decide (i≥j))
 |_=>none
noncomputable def K8(op:CmpOp)(a b:D):Option Bool:=a.int?.bind λ i=>b.int?.bind λ j=>PX op i j
theorem K6(R:X.rep p){op:CmpOp}(ha:X.den p v a)(hb:X.den p u b)(h:K8 op a b=some k):GA X X.den p (compareOp op v u) (.bool k) p.st:=λ Q E kQ=>
 aT (o:=K8 op a b) (P:=λ k=>Q (.bool k) p.s→wpAny X.m X.A (compareOp op v u) Q E p.s) (by
  apply b6.int ha;intro i t;apply b6.int hb;intro j t'
  induction op using CmpOp.casesOn with
  |Lt=>exact PySem.P.lt_int
  |LtE=>exact PySem.P.le_int
  |Gt=>exact PySem.P.gt_int
  |GtE=>exact PySem.P.ge_int
  |_=>exact ag) h (kQ _ p (Mv.refl R) rfl (.bool k))
noncomputable def kL:D→Option Bool
 | .none=>some true
 | .val _=>none
 |_=>some false
theorem n5(ha:X.den p v a)(h:kL a=some k):(v==Value.none)=k:=by
 revert h
 induction ha using b8.casesOn with
 |val v=>exact nsK
 |_=>exact an
theorem Nj(R:X.rep p)(ha:X.den p v a)(h:kL a=some k):GA X X.den p (compareOp .Is v .none) (.bool k) p.st:=λ Q E kQ=>
 is_none_gen ((n5 ha h).symm▸kQ _ p (Mv.refl R) rfl (.bool k))
theorem Cl(R:X.rep p)(ha:X.den p v a)(h:kL a=some k):GA X X.den p (compareOp .IsNot v .none) (.bool (!k)) p.st:=λ Q E kQ=>
 isnot_none_gen ((n5 ha h).symm▸kQ _ p (Mv.refl R) rfl (.bool (!k)))
end
end
section
variable{m:SV}
inductive Oq(K:Frag)(C:Addr):Prop
 |mk (cd:ClassData) (h:clsIn K C=some cd) (hd:cd.hasDict=true)
structure o5(h₁:Heap)(K:Frag)(C:Addr):Prop where
 hX:K.In h₁
 cd:Oq K C
 hga:findIn K (.ref C) "__getattribute__"=some (some (.builtin "object.__getattribute__"))
 hk:findIn K (.ref C) "__getattr__"=some none
 hsa:findIn K (.ref C) "__setattr__"=some (some (.builtin "object.__setattr__"))
 over:plainOver K C=true
abbrev xF(X:Cx)(K:Frag)(C:Addr):Prop:=o5 X.h₁ K C
theorem nU{h:Heap}{a:Addr}(x:h.Ns1 a m){o:Obj}(ho:h.get? a=some o)(name:Str):lookIn name o=some (m name):=by
 obtain⟨o',es,ep,e1,e2,e3,e4,e5⟩:=x
 obtain rfl:=an (ho.symm.trans e1)
 unfold lookIn
 rw[e2]
 have hm:=e5 name
 unfold nsFind findBy at hm
 rw[←Array.find?_toList]at hm
 have hr:es.toList.any (·.refKey)=false:=List.any_eq_false.mpr λ en hen=>by
  obtain⟨n,t,hk⟩:=e3 en (Array.mem_toList_iff.mp hen)
  unfold DictEntry.refKey
  rw[hk];exact nofun
 dsimp only
 rw[hr]
 revert hm
 generalize List.find? _ es.toList=q
 induction q using Option.casesOn with
 |none=>exact λ e=>ae some e
 |some en=>exact λ e=>ae some e
noncomputable def Ad:D→Bool
 | .val (.builtin _)=>false
 |_=>true
theorem vG{prog:Program}{w:World}{c:dW}{v:Value}{d:D}(h:Ad d=true)(hv:b8 prog w c v d):handedIn v=true:=by
 revert h
 induction hv using b8.casesOn with
 |val v=>induction v using Value.casesOn<;>first|exact λ _=>rfl|exact ftK
 |_=>exact λ _=>rfl
theorem c8{α:Type}{l:List α}(h:small l=true):l.length≤1000000:=bf l▸Nat.le_of_ble_eq_true h
theorem yq{o:Obj}(h:∀cd,o.data≠.cls cd):notCls o=true:=by
 unfold notCls
 revert h
 generalize o.data=q
 induction q using Data.casesOn with
 |cls cd=>exact λ h=>absurd rfl (h cd)
 |_=>exact λ _=>rfl
section
variable{X:Cx}{p:Pt}{K:Frag}{C:Addr}{i:Nat}{fs:List (Str×D)}{v u:Value}{d:D}{name:Str}
theorem zS(R:X.rep p)(h:K.In X.h₁):K.In p.s.heap:=λ a o e=>R.keep _ _ (h a o e)
inductive On(X:Cx)(p:Pt)(i:Nat)(C:Addr)(fs:List (Str×D)):Prop
 |mk (ox od:Obj) (m:SV) (I:InstAt p.s.heap (p.ρ i).1 ox C (some od)) (hns:p.s.heap.Ns1 (p.ρ i).2 m) (hod:p.s.heap.get? (p.ρ i).2=some od) (hdx:ox.dict=some (p.ρ i).2) (hne:(p.ρ i).2≠(p.ρ i).1) (hx:p.s.heap.get? (p.ρ i).1=some ox) (hc:ox.cls= .ref C) (hno:∀cd,ox.data≠.cls cd)
  (hf:∀f d,bD fs f=some d→HV X.prog X.w (p.cfg X.P) (m f) d) (hf':∀f,bD fs f=none→m f=none)
theorem na(R:X.rep p)(ho:aW p.st.σ i=some (.inst C fs)):On X p i C fs:=by
 obtain⟨ox,m,e,hx,hc,hno,hdx,hns,hf,hf'⟩:Oo .. :=R.obj i _ ho
 obtain⟨od,_,_,hod,_⟩:=id hns
 exact⟨ox,od,m,⟨hx,hc,yq hno,by rw[hdx];exact hod⟩,hns,hod,hdx,e,hx,hc,hno,hf,hf'⟩
theorem vL(R:X.rep p)(ck:xF X K C)(hn:findIn K (.ref C) name=some none)(ho:aW p.st.σ i=some (.inst C fs))(hv:X.den p v (.ob i))(hl:bD fs name=some d)(hd:Ad d=true){expr:Bool}:GA X X.den p (getAttr v name expr) d p.st:=by
 cases hv
 obtain⟨ox,od,m,I,hns,hod,_,_,_,_,_,hf,_⟩:=na R ho
 obtain⟨x,hx1,hxd⟩:=hf name d hl
 obtain⟨cd,hcd,hh⟩:=ck.cd
 have hfo:findObj K C (some od) name=some (.value x):=by
  unfold findObj
  rw[hcd,Option.bind_some,hn,Option.bind_some]
  dsimp only
  rw[Option.bind_some,Option.bind_some]
  dsimp only
  unfold PySem.W.ownOf
  rw[hh,aZ rfl]
  dsimp only
  rw[nU hns hod name,hx1]
  rfl
 exact λ Q E kQ=>get_value (zS R ck.hX) I ck.hga hfo (vG hd hxd) (kQ x ⟨_,p.ρ,p.st⟩ (Mv.tick R) rfl hxd)
theorem p4(R:X.rep p)(ck:xF X K C){f:Addr}(hm:findIn K (.ref C) name=some (some (.ref f)))(ht:typeIn K (.ref f)=some (.type "function"))(ho:aW p.st.σ i=some (.inst C fs))(hv:X.den p v (.ob i))(hl:bD fs name=none){pl:Sem Bool}{Q:Value×List Value→Shared→Prop}{E:VS}(k:Q (.ref f,[v]) p.s):wpAny X.m X.A (getMethod v name pl) Q E p.s:=by
 cases hv
 obtain⟨ox,od,m,I,hns,hod,_,_,_,_,_,_,hf'⟩:=na R ho
 exact method_fn (zS R ck.hX) I ck.hga ck.hk hm ht (by show(lookIn name od).map _=_;rw[nU hns hod name,hf' name hl];rfl) k
theorem xH(h:∀f,bD fs f=none→m f=none):Within m (fs.map (·.1)):=λ y hy=>by
 induction hq:bD fs y using Option.casesOn with
 |none=>exact absurd (h y hq) hy
 |some d=>exact yA hq
theorem sq{f:Str}(h:bD (iB fs name d) f=none):f≠name∧bD fs f=none:=by
 rw[jk]at h
 by_cases n:f=name
 ·exact snK ((aZ n).symm.trans h)
 ·exact⟨n,(aI n).symm.trans h⟩
theorem uB(R:X.rep p)(ck:xF X K C)(ht:takerIn K C name=some none)(ho:aW p.st.σ i=some (.inst C fs))(hu:X.den p u (.ob i))(hv:X.den p v d)(hsz:small fs=true):GA X (λ _ _ _=>True) p (setAttr u name v) () (p.st.put i (.inst C (iB fs name d))):=by
 intro Q E kQ
 cases hu
 obtain⟨⟨oc,odi,oda,osl⟩,od,m,I,hns,hod,hdx,hne,hx,hc,hno,hf,hf'⟩:=na R ho
 obtain⟨cd,hcd,hh⟩:=ck.cd
 have hX:=zS R ck.hX
 refine set_plain hX I ck.hsa (osa_open (s:={p.s with toks:=p.s.toks+1}) hX I ck.over ht λ b=>?_)
 obtain rfl:oc=_:=hc
 obtain rfl:odi=_:=hdx
 refine aa (ak (aa (aa (wpAny_loadPart hx (aa (Looks.here (s:={p.s with toks:=p.s.toks+1}) (looks_clsIn (h:=p.s.heap) hX hcd) ?_))))))
 rw[hh]
 refine ak (a:=some (p.ρ i).2) (aa (ak (aa ?_)))
 refine wpAny_nsSet1 (s:={p.s with toks:=p.s.toks+1}) hns λ h' hn' hs=>?_
 obtain⟨oD,esD,epD,hoD,hdD,hcD⟩:=hn'.count (Within.cons name v (xH hf'))
 refine aa (wpAny_lookBehind hoD (by rw[hdD];exact pastItsLine_dict (ad hcD (by rw[List.length_cons,aG];exact ad (bK (c8 hsz)) (by decide)))) ?_)
 exact ak (kQ () ⟨{p.s with heap:=h',toks:=p.s.toks+1+1},p.ρ,p.st.put i (.inst C (iB fs name d))⟩
  (dJ.upd R ho (λ a b hb h1 h2=>(hs.2 a h2).trans hb) (aM hs.1.symm) rfl rfl rfl λ c l hc=>
   ⟨_,_,hne,by rw[hc];exact(hs.2 _ hne.symm).trans hx,rfl,hno,rfl,by rw[hc];exact hn',λ f e he=>fq he (λ q e=>⟨v,aZ q,e▸hv.mono l⟩) λ q h=>(hf f e h).imp (λ _=>(b8.mono · l)) (aI q),λ f he=>(aI (sq he).1).trans (hf' f (sq he).2)⟩) rfl trivial)
end
end
section
variable{ev:Expr→Loc→St→(D→St→aD)→aD}{pos:Pos}{es:List Expr}
noncomputable def SL(X:Cx)(p:Pt)(t:Sem (List Value))(c:(List D→St→aD)→aD):Prop:=
 ∀k out,af (c k)=out→out≠.no→∀(Q:List Value→Shared→Prop) (E:VS),(∀vs q ds st,X.mv p q→q.st=st→X.denL q vs ds→af (k ds st)=out→Q vs q.s)→wpAny X.m X.A t Q E p.s
noncomputable def de(ev:Expr→Loc→St→(D→St→aD)→aD):List Expr→Loc→St→(List D→St→aD)→aD
 |[],_,st,k=>k [] st
 |e::es,loc,st,k=>cond (eR e) .no (ev e loc st λ d st'=>de ev es loc st' λ ds st''=>k (d::ds) st'')
section
variable{X:Cx}{env:Env}{loc:Loc}
theorem ir(he:∀e q,X.rep q→ax X q env loc→SE X.e q (eval e env) (ev e loc q.st)){pos:Pos}(es:List Expr):∀(p:Pt),X.rep p→ax X p env loc→SL X.e p (spliced (backTo pos (starEach es env))) (de ev es loc p.st):=by
 induction es with
 |nil=>exact λ p R F k out hc ho Q E kQ=>ak (kQ [] p [] p.st (Mv.refl R) rfl .nil hc)
 |cons e es ih=>
  intro p R F k out hc ho Q E kQ
  obtain⟨hs,hc⟩:=cY hc ho
  rw[cx hs,cK]
  exact spliced_cons (he e p R F _ out hc ho _ E λ v q d st m e1 hv hk=>ih q m.rep (F.keepE m R) _ out (e1▸hk) ho _ E λ vs q' ds st' m' e2 hvs hk'=>
   kQ (v::vs) q' (d::ds) st' (dY m m') e2 (.cons (hv.mono (m'.le λ _ h=>h.elim)) hvs) hk')
noncomputable def noStar:List Expr→Bool
 |[]=>true
 |e::es=>!eR e&&noStar es
theorem u8(h:noStar es=true):(backTo pos (starEach es env)).any (·.1)=false:=by
 induction es with
 |nil=>rfl
 |cons e es ih=>
  have h:=(Bool.and_eq_true _ _).mp h
  rw[cx (mG h.1),cK]
  exact ih h.2
theorem cZ{p:Pt}{f:Value}(R:X.rep p)(F:ax X p env loc)(he:∀e q,X.rep q→ax X q env loc→SE X.e q (eval e env) (ev e loc q.st)){first:List Value}(hns:noStar es=true){k:List D→St→aD}{out:aD}(hc:af (de ev es loc p.st k)=out)(ho:out≠.no){Q:VS}{E:VS}(hk:∀q,X.e.mv p q→∃kk,(kk=Keeper.frame∨kk=Keeper.machine∨kk=Keeper.boundFrame)∧Looks X.m q.s.heap (keeperOf f) kk)(h:∀vs q ds st,X.e.mv p q→q.st=st→X.denL q vs ds→af (k ds st)=out→wpAny X.m X.A (call f (first++vs)) Q E q.s):
  wpAny X.m X.A (callWith pos f first (backTo pos (starEach es env)) []) Q E p.s:=by
 refine callWith_of (P:=λ h=>∃q,X.e.mv p q∧q.s.heap=h) ((Bool.or_false _).trans (u8 hns)) (λ hh h=>h.elim λ q h=>h.2▸hk q h.1) ?_
 induction es using List.casesOn with
 |nil=>exact PySem.evalArgs_none ⟨⟨p,Mv.refl R,rfl⟩,h [] p [] p.st (Mv.refl R) rfl .nil hc⟩
 |cons e es=>
  have:=ir (X:=X) he (pos:=pos) (e::es) p R F k out hc ho (λ vs s'=>(∃q,X.e.mv p q∧q.s.heap=s'.heap)∧wpAny X.m X.A (call f (first++vs)) Q E s') E λ vs q ds st m e1 hvs hk'=>⟨⟨q,m,rfl⟩,h vs q ds st m e1 hvs hk'⟩
  rw[cx (mG ((Bool.and_eq_true _ _).mp hns).1),cK]at this ⊢
  exact evalArgs_plain this
end
end
section
variable{M:Model}{h:Heap}
section
variable{X:Cx}{p q:Pt}{v u:Value}{a b d:D}{k:Bool}{ds es:List D}
theorem gN{fa:Addr}{f:Fn}(R:X.rep q)(hf:zT X fa f):Looks X.m q.s.heap (keeperOf (.ref fa)) Keeper.frame:=by
 obtain⟨o,fd,ho,hdat,_⟩:=hf
 unfold keeperOf
 refine(Looks.ld (part:=none) (R.keep _ _ ho)).andThen ?_
 rw[hdat]
 exact Looks.now
theorem n3{id:String}:Looks M h (keeperOf (.builtin id)) Keeper.machine:=Looks.of_pure rfl
theorem gq{T:String}:Looks M h (keeperOf (.type T)) Keeper.machine:=Looks.of_pure rfl
theorem vY(R:X.rep p){kk:cv}(ha:X.den p v a)(hk:dN a=some kk){es:List (D×D)}(hd:jv X p u es){w:Value}(hw:X.den p w d):GA X X.den p (call (.builtin "dict.get") [u,v,w]) (gu (aR es kk) d) p.st:=by
 obtain⟨l,kvs,rfl,hm,hi,lo⟩:=hd
 intro Q E kQ
 refine call_meetsIn PySem.F.slot_dict_get hm.typeIs PySem.F.entry_dict_get (PySem.F.args_dict_get_3 _ _ _) (meets_dict_get_default (bV X.prog X.w) l (gS ha hk) lo w) ⟨_,hm.mapOf,?_⟩
 refine kQ _ ⟨_,p.ρ,p.st⟩ (Mv.tick R) rfl ?_
 have:=hi.look kk
 induction h:aR es kk using Option.casesOn with
 |none=>rw[this.none h];exact hw
 |some d'=>
  obtain⟨v',h1,h2⟩:=this.some h
  rw[h1];exact h2
noncomputable def Mo(n:Nat):Str:=⟨cond (Nat.blt n 10) #[48+n] #[48+n/10,48+n%10]⟩
noncomputable def lr(i:Int):Option Str:=cond (decide (i=(i.toNat:Int))&&Nat.blt i.toNat 100) (some (Mo i.toNat)) none
theorem EH:∀n:Fin 100,Mo n.val=Str.ofString (toString ((n.val:Nat):Int))∧n.val.log2≤7:=by decide+kernel
theorem Jk(R:X.rep p){i:Int}{x:Str}(hv:X.den p v (.int i))(h:lr i=some x):GA X X.den p (call (.type "str") [v]) (.str x) p.st:=by
 intro Q E kQ
 cases hv with
 |int i t=>
  refine aT (P:=λ x=>(∀v q,X.mv p q→q.st=p.st→X.den q v (.str x)→Q v q.s)→_) (.cond λ hb=>?_) h kQ
  obtain⟨h1,h2⟩:=(Bool.and_eq_true _ _).mp hb
  obtain⟨h3,h4⟩:=EH ⟨i.toNat,bp.mp h2⟩
  revert h3
  generalize i.toNat=n at*
  obtain rfl:=bP h1
  exact λ h3 kQ=>PySem.P.str_of_int (aA h4 (by decide)) (h3▸kQ _ ⟨_,p.ρ,p.st⟩ (Mv.tick R) rfl (.str _ _))
theorem vE(R:X.rep p){k:Bool}(hv:X.den p v (.bool k)):GA X X.den p (call (.type "int") [v]) (.int (tW k)) p.st:=by
 intro Q E kQ
 cases hv with
 |bool k=>
  refine call_int_bool ?_
  rw[show(if k=true then(1:Int)else 0)=tW k by induction k using Bool.casesOn<;>rfl]
  exact kQ _ ⟨_,p.ρ,p.st⟩ (Mv.tick R) rfl (.int _ _)
noncomputable def He(a:Nat):Bool:=Nat.ble 48 a&&Nat.ble a 57
noncomputable def eA(x:Str):Option Int:=match x.cps.toList with
 |[a]=>cond (He a) (some ((a-48:Nat):Int)) none
 |[a,b]=>cond (He a&&He b) (some ((10*(a-48)+(b-48):Nat):Int)) none
 |_=>none
theorem ru{a:Nat}(h:He a=true):∃d:Fin 10,a=48+d.val:=by
 obtain⟨h1,h2⟩:=(Bool.and_eq_true _ _).mp h
 have h1:=Nat.le_of_ble_eq_true h1
 exact⟨⟨a-48,Nat.lt_succ_of_le (Nat.sub_le_sub_right (Nat.le_of_ble_eq_true h2) 48)⟩,(Nat.add_sub_of_le h1).symm⟩
theorem Pz:∀a:Fin 10,PySem.intText? ⟨#[48+a.val]⟩=some ((48+a.val-48:Nat):Int):=by decide+kernel
theorem Py:∀a b:Fin 10,PySem.intText? ⟨#[48+a.val,48+b.val]⟩=some ((10*(48+a.val-48)+(48+b.val-48):Nat):Int):=by decide+kernel
theorem y3{x:Str}:b6 (λ i=>PySem.intText? x=some i∧x.length≤640) (eA x):=by
 obtain⟨⟨l⟩⟩:=x
 induction l using List.casesOn with
 |nil=>exact ag
 |cons a l=>
  induction l using List.casesOn with
  |nil=>
   refine .cond λ h=>?_
   obtain⟨d,rfl⟩:=ru h
   exact⟨Pz d,show 1≤640 by decide⟩
  |cons b l=>
   induction l using List.casesOn with
   |nil=>
    refine .cond λ h=>?_
    obtain⟨h1,h2⟩:=(Bool.and_eq_true _ _).mp h
    obtain⟨d,rfl⟩:=ru h1
    obtain⟨e,rfl⟩:=ru h2
    exact⟨Py d e,show 2≤640 by decide⟩
   |cons=>exact ag
theorem y2(R:X.rep p){x:Str}{i:Int}(hv:X.den p v (.str x))(h:eA x=some i):GA X X.den p (call (.type "int") [v]) (.int i) p.st:=by
 intro Q E kQ
 cases hv with
 |str x t=>
  obtain⟨h1,h2⟩:=aT (P:=λ i=>PySem.intText? x=some i∧x.length≤640) y3 h
  exact PySem.W.KIN.call_text h1 h2 (kQ _ ⟨_,p.ρ,p.st⟩ (Mv.tick R) rfl (.int _ _))
noncomputable def J1(i j:Int):Int:=cond (decide (j>i)) j i
theorem J0(hh:X.A.handled=none)(R:X.rep p){i j:Int}(hv:X.den p v (.int i))(hu:X.den p u (.int j)):GA X X.den p (call (.builtin "max") [v,u]) (.int (J1 i j)) p.st:=by
 intro Q E kQ
 cases hv with
 |int i t=>
  cases hu with
  |int j t'=>
   refine cj (max_two_ints hh λ h' tk hk hz=>?_)
   refine kQ _ ⟨{p.s with heap:=h',toks:=tk},p.ρ,p.st⟩ (Mv.grow R hk hz rfl rfl rfl) rfl ?_
   unfold J1
   by_cases c:j>i
   ·rw[aZ c,bI c];exact .int _ _
   ·rw[aI c,bB c];exact .int _ _
end
end
section
theorem b6.elim{α β:Type}{P:α→Prop}{o:Option β}{x:Option α}{f:β→Option α}(k:∀b,o=some b→b6 P (f b))(k0:b6 P x):b6 P (o.elim x f):=by
 induction o using Option.casesOn with
 |none=>exact k0
 |some b=>exact k b rfl
theorem b6.bnd{α β:Type}{P:α→Prop}{o:Option β}{f:β→Option α}(k:∀b,o=some b→b6 P (f b)):b6 P (o.bind f):= .bind (.all k)
theorem b6.mp{α β:Type}{P:α→Prop}{o:Option β}{f:β→α}(k:∀b,o=some b→P (f b)):b6 P (o.map f):= .map (.all k)
noncomputable def D.bool?:D→Option Bool
 | .bool b=>some b
 |_=>Option.none
noncomputable def D.str?:D→Option Str
 | .str b=>some b
 |_=>Option.none
noncomputable def D.noneB:D→Bool
 | .none=>true
 |_=>false
section
variable{prog:Program}{w:World}{c:dW}{v:Value}{a:D}(ha:b8 prog w c v a){α:Type}{P:Value→α→Prop}
include ha
theorem b6.str{f:Str→Option α}(k:∀i t,b6 (P (.str i t)) (f i)):b6 (P v) (a.str?.bind f):=by
 induction ha using b8.casesOn with
 |str i t=>exact k i t
 |_=>exact ag
theorem b6.nonB{o:Option α}(k:b6 (P .none) o):b6 (P v) (_root_.cond a.noneB o none):=by
 induction ha using b8.casesOn with
 |none=>exact k
 |_=>exact ag
end
noncomputable def JZ(st:St)(a b:D):Option Bool:=(dictOf st b).elim ((dE st b).bind λ ds=>mu a ds) λ es=>(dN a).map λ k=>iy (aR es k)
noncomputable def MV(a b:D):Option Bool:=(a.bool?).elim ((gw a b).map (!·)) λ x=>b.bool?.map λ y=>!(x==y)
noncomputable def dF(st:St)(op:CmpOp)(a b:D):Option Bool:=match op with
 | .Eq=>gw a b
 | .NotEq=>MV a b
 | .In=>JZ st a b
 | .NotIn=>(JZ st a b).map (!·)
 | .Is=>cond b.noneB (kL a) none
 | .IsNot=>cond b.noneB ((kL a).map (!·)) none
 |op=>K8 op a b
section
variable{X:Cx}{p:Pt}{v u:Value}{a b d:D}{k:Bool}
theorem sO(R:X.rep p)(hr:dO X)(hs:sysModules<X.h₁.objs.size)(ha:X.den p v a)(hb:X.den p u b):b6 (λ k=>GA X X.den p (compareOp .In v u) (.bool k) p.st∧GA X X.den p (compareOp .NotIn v u) (.bool (!k)) p.st) (JZ p.st a b):=
 .elim (λ es hes=>.mp λ kk hk=>⟨y4 R ha hk (ng R hs hb hes),qM R ha hk (ng R hs hb hes)⟩)
  (.bnd λ ds hds=>.all λ k h=>⟨Nl R hr ha (nE R hb hds) h,By R hr ha (nE R hb hds) h⟩)
theorem JK(R:X.rep p)(hr:dO X)(ha:X.den p v a)(hb:X.den p u b):b6 (λ k=>GA X X.den p (compareOp .NotEq v u) (.bool k) p.st) (MV a b):=by
 refine .elim (λ x hx=>.mp λ y hy=>?_) (.mp λ k h=>Ig R hr ha hb h)
 induction ha using b8.casesOn with
 |bool x'=>induction hb using b8.casesOn with
  |bool y'=>
   cases hx;cases hy
   exact λ Q E kQ=>EqBoolInt.of_rcne (SeqAt.RcNeAt.bool_bool _ _) (kQ _ p (Mv.refl R) rfl (.bool _))
  |_=>exact nsK hy
 |_=>exact nsK hx
theorem iZ(R:X.rep p)(hr:dO X)(hs:sysModules<X.h₁.objs.size){op:CmpOp}(ha:X.den p v a)(hb:X.den p u b)(h:dF p.st op a b=some k):GA X X.den p (compareOp op v u) (.bool k) p.st:=by
 refine aT (P:=λ k=>GA X X.den p (compareOp op v u) (.bool k) p.st) ?_ h
 clear h
 induction op using CmpOp.casesOn with
 |Eq=>exact .all λ k h=>NH R hr ha hb h
 |NotEq=>exact JK R hr ha hb
 |In=>exact(sO R hr hs ha hb).mono λ _ h=>h.1
 |NotIn=>exact .map ((sO R hr hs ha hb).mono λ _ h=>h.2)
 |Is=>exact .nonB (P:=λ u k=>GA X X.den p (compareOp .Is v u) (.bool k) p.st) hb (.all λ k h=>Nj R ha h)
 |IsNot=>exact .nonB (P:=λ u k=>GA X X.den p (compareOp .IsNot v u) (.bool k) p.st) hb (.mp λ k h=>Cl R ha h)
 |_=>exact .all λ k h=>K6 R ha hb h
noncomputable def ic(st:St):D→Option (List D)
 | .lst ds=>some ds
 | .ob i=>(aW st.σ i).bind iP
 |_=>none
structure IV(X:Cx)(p:Pt)(v:Value)(ds:List D):Prop where
 seq:ed X p v ds
 ty:p.s.TypeIs v "list"
theorem jn(R:X.rep p)(ha:X.den p v a){ds:List D}(h:ic p.st a=some ds):IV X p v ds:=by
 refine aT (P:=IV X p v) ?_ h
 clear h
 induction ha using b8.casesOn with
 |lst ho hc hd hu hi=>exact⟨.list rfl ho hc hd hi,⟨_,ho,hc⟩⟩
 |ob i hi=>
  refine .bnd λ o ho=>?_
  have:=R.obj i o ho
  induction o using aY.casesOn with
  |list es=>
   obtain⟨xs,n,e,ho,hi⟩:HP .. :=this
   exact⟨.list rfl ho rfl rfl hi,⟨_,ho,rfl⟩⟩
  |_=>exact ag
 |_=>exact ag
noncomputable def Lv:Operator→Bool
 | .Add=>true
 |_=>false
noncomputable def oM(st:St)(op:Operator)(a b:D):Option D:=(ic st a).elim (Lf op a b) λ xs=>(ic st b).bind λ ys=>cond (Lv op&&(small xs&&small ys)) (some (.lst (xs++ys))) none
theorem DM(R:X.rep p){op:Operator}(ha:X.den p v a)(hb:X.den p u b)(h:oM p.st op a b=some d):GA X X.den p (binaryOp op v u) d p.st:=by
 refine aT (P:=λ d=>GA X X.den p (binaryOp op v u) d p.st) ?_ h
 refine .elim (λ xs hx=>.bnd λ ys hy=>.cond λ h=>?_) (.all λ d h=>Ld R ha hb h)
 obtain⟨h,h1⟩:=(Bool.and_eq_true _ _).mp h
 obtain⟨h1,h2⟩:=(Bool.and_eq_true _ _).mp h1
 have A:=jn R ha hx
 have B:=jn R hb hy
 induction op using Operator.casesOn with
 |Add=>exact zA R A.1 B.1 A.2 B.2 (ad (cb (c8 h1) (c8 h2)) (by decide))
 |_=>exact ftK h
noncomputable def gB(st:St)(a i:D):Option D:=(dictOf st a).elim ((dE st a).bind λ ds=>i.int?.bind λ j=>(jK j).bind λ n=>cond (Nat.blt n 1000000) (dj ds n) none) λ es=>(dN i).bind λ k=>aR es k
theorem dn(slice:Expr)(o i:Value):∃ops,subscripted slice false o i=operate ops (getItem o i):=by
 induction slice using Expr.casesOn with
 |Slice l u st pos=>induction st using Option.casesOn<;>exact⟨_,rfl⟩
 |_=>exact⟨_,rfl⟩
theorem yW(R:X.rep p)(hs:sysModules<X.h₁.objs.size)(ha:X.den p v a)(hb:X.den p u b)(h:gB p.st a b=some d){value slice:Expr}:GA X X.den p (subscriptTail value slice v u) d p.st:=by
 refine aT (P:=λ d=>GA X X.den p (subscriptTail value slice v u) d p.st) (.elim (λ es hes=>.bnd λ kk hk=>.all λ d h=>?_) (.bnd λ ds hds=>?_)) h
 ·have D':=ng R hs ha hes
  obtain⟨l,kvs,rfl,hm,hi,lo⟩:=id D'
  exact λ Q E kQ=>tail_any hm.typeIs slot_dict_getitem.lookup (s8 R hb hk D' h Q E kQ) (dn _ _ _).choose_spec
 ·apply b6.int hb (P:=λ u d=>GA X X.den p (subscriptTail value slice v u) d p.st)
  refine λ j t=>.bnd λ n hn=>.cond λ hb'=>.all λ d h Q E kQ=>?_
  have S:=nE R ha hds
  have G:=n9 R S (t:=t) hn h (dH (bp.mp hb') (by decide)) Q E kQ
  exact(uC S).elim (λ T=>tail_any T slot_list_getitem.lookup G (dn _ _ _).choose_spec) λ T=>tail_any T PySem.F.slot_tuple_getitem.lookup G (dn _ _ _).choose_spec
end
end
section
variable{α:Type}
inductive Bi where
 |len|isinstance|max|str|int|list
noncomputable def Bi.val:Bi→Value
 | .len=>.builtin "len"| .isinstance=>.builtin "isinstance"| .max=>.builtin "max"| .str=>.type "str"| .int=>.type "int"| .list=>.type "list"
noncomputable def HZ(n:String):Option Ty:=if n= "int"then some .int else if n= "bool"then some .bool else if n= "str"then some .str else if n= "tuple"then some .tuple else if n= "list"then some .list else none
noncomputable def D.ty?:D→Option String
 | .val (.type n)=>some n
 |_=>Option.none
noncomputable def Me(d:D):Option Ty:=d.ty?.bind HZ
theorem eu{P:α→Prop}{c:Prop}[Decidable c]{a:α}{o:Option α}(h:c→P a)(h':b6 P o):b6 P (if c then some a else o):=by
 by_cases q:c
 ·rw[aZ q];exact h q
 ·rw[aI q];exact h'
theorem mT{P:α→Prop}{b:Bool}{a:α}{o:Option α}(h:b=true→P a)(h':b6 P o):b6 P (cond b (some a) o):=by
 induction b using Bool.casesOn with
 |true=>exact h rfl
 |false=>exact h'
theorem ui{n:String}:b6 (λ t=>n=t.name) (HZ n):=eu id (eu id (eu id (eu id (eu id ag))))
noncomputable def one:List D→Option D
 |[a]=>some a
 |_=>none
noncomputable def two(f:D→D→Option α):List D→Option α
 |[a,b]=>f a b
 |_=>none
noncomputable def rJ(st:St)(b:Bi)(ds:List D):Option (D×St):=match b with
 | .len=>(one ds).bind λ a=>(dE st a).bind λ es=>cond (small es) (some (.int (aw es:Nat),st)) none
 | .isinstance=>two (λ a b=>(Me b).bind λ t=>(Kt t a).map λ k=>(.bool k,st)) ds
 | .max=>two (λ a b=>a.int?.bind λ i=>b.int?.bind λ j=>some (.int (J1 i j),st)) ds
 | .str=>(one ds).bind λ a=>a.int?.bind λ i=>(lr i).map λ x=>(.str x,st)
 | .int=>(one ds).bind λ a=>a.bool?.elim (a.str?.bind λ x=>(eA x).map λ i=>(.int i,st)) λ b=>some (.int (tW b),st)
 | .list=>(one ds).bind λ a=>(dE st a).bind λ es=>cond (small es) (some (.ob st.next,st.add (.list es))) none
section
variable{X:Cx}{p:Pt}{vs:List Value}{ds:List D}{d:D}{st:St}
theorem gA{P:List Value→α→Prop}{f:D→Option α}(hv:X.denL p vs ds)(k:∀v d,X.den p v d→b6 (P [v]) (f d)):b6 (P vs) ((one ds).bind f):=by
 induction hv using bH.casesOn with
 |nil=>exact ag
 |cons h h2=>induction h2 using bH.casesOn with
  |nil=>exact k _ _ h
  |cons=>exact ag
theorem lq{P:List Value→α→Prop}{f:D→D→Option α}(hv:X.denL p vs ds)(k:∀v u a b,X.den p v a→X.den p u b→b6 (P [v,u]) (f a b)):b6 (P vs) (two f ds):=by
 induction hv using bH.casesOn with
 |nil=>exact ag
 |cons h h2=>induction h2 using bH.casesOn with
  |nil=>exact ag
  |cons h2 h3=>induction h3 using bH.casesOn with
   |nil=>exact k _ _ _ _ h h2
   |cons=>exact ag
noncomputable def t7(X:Cx)(p:Pt)(f:Value)(vs:List Value)(r:D×St):Prop:=GA X X.den p (call f vs) r.1 r.2
theorem EA{v:Value}{b:D}(hb:X.den p v b){α:Type}{P:Value→α→Prop}{f:Ty→Option α}(k:∀t,b6 (P (.type t.name)) (f t)):b6 (P v) ((Me b).bind f):=by
 induction hb using b8.casesOn with
 |val w=>induction w using Value.casesOn with
  |type n=>exact .bind (ui.mono λ t e=>e▸k t)
  |_=>exact ag
 |_=>exact ag
theorem Hy(hh:X.A.handled=none)(R:X.rep p){b:Bi}(hv:X.denL p vs ds)(h:rJ p.st b ds=some (d,st)):GA X X.den p (call b.val vs) d st:=by
 refine aT (P:=t7 X p b.val vs) ?_ h
 clear h
 induction b using Bi.casesOn with
 |len=>
  exact gA (P:=t7 X p _) hv λ v d h=>.bnd λ es hes=>.cond λ hs=>show t7 X p _ [v] (.int (aw es:Nat),_) by
   rw[bf];exact vo R (nE R h hes) (aA (c8 hs) (by decide))
 |isinstance=>exact lq (P:=t7 X p _) hv λ v u a b ha hb=>EA (P:=λ u=>t7 X p _ [v,u]) hb λ t=>.mp λ k hk Q E kQ=>Ks R t ha hk Q E λ v q m e r=>kQ v q (m.weaken λ _ h=>h.elim) e r
 |max=>exact lq (P:=t7 X p _) hv λ v u a b ha hb=>.int (P:=λ v=>t7 X p _ [v,u]) ha λ i t=>.int (P:=λ u=>t7 X p _ [_,u]) hb λ j t'=>J0 hh R (.int i t) (.int j t')
 |str=>exact gA (P:=t7 X p _) hv λ v d h=>.int (P:=λ v=>t7 X p _ [v]) h λ i t=>.mp λ x hx=>Jk R (.int i t) hx
 |int=>
  refine gA (P:=t7 X p _) hv λ v d h=>.elim (λ b e=>?_) (.str (P:=λ v=>t7 X p _ [v]) h λ x t=>.mp λ i hi=>y2 R (.str x t) hi)
  induction h using b8.casesOn with
  |bool b'=>obtain rfl:=an e;exact vE R (.bool _)
  |_=>exact nsK e
 |list=>exact gA (P:=t7 X p _) hv λ v d h=>.bnd λ es hes=>.cond λ hs=>q9 R (nE R h hes) (eh hs)
theorem yP{M:Model}{h:Heap}(b:Bi):Looks M h (keeperOf b.val) Keeper.machine:=by induction b using Bi.casesOn<;>exact Looks.of_pure rfl
abbrev iX(n:Nat)(l:List α):List α:=l.drop n
abbrev gE(n:Nat)(l:List α):List α:=l.take n
theorem Av(n:Nat)(l:List α):gE n l=l.take n:=rfl
noncomputable def Hj(lo hi:D)(ds:List D):Option (List D):=cond hi.noneB (lo.int?.bind λ i=>(jK i).map λ n=>iX n ds) (cond lo.noneB (hi.int?.bind λ j=>(jK j).map λ n=>gE n ds) none)
inductive wm(prog:Program)(w:World)(c:dW)(vl vu:Value)(xs:Array Value)(es:List D):Prop
 |mk (a b:Option Int) (h1:IsPart vl a) (h2:IsPart vu b) (h3:bH prog w c (slicePick xs a b none).toList es) (h4:(slicePick xs a b none).size≤xs.size)
theorem Db{prog:Program}{w:World}{c:dW}{vl vu:Value}{lo hi:D}{xs:Array Value}{ds es:List D}(hl:b8 prog w c vl lo)(hu:b8 prog w c vu hi)(hi':bH prog w c xs.toList ds)(h:Hj lo hi ds=some es):wm prog w c vl vu xs es:=by
 refine aT (P:=wm prog w c vl vu xs) ?_ h
 have H:b6 (wm prog w c vl .none xs) (lo.int?.bind λ i=>(jK i).map λ n=>iX n ds):= .int (P:=λ vl=>wm prog w c vl .none xs) hl λ i t=>.mp λ n hn=>by
  obtain rfl:=gd hn
  refine⟨_,_,.int _ t,.none,?_,slicePick_size_le ..⟩
  rw[slicePick_from']
  exact hi'.drop n
 have H2:b6 (wm prog w c .none vu xs) (hi.int?.bind λ j=>(jK j).map λ n=>gE n ds):= .int (P:=λ vu=>wm prog w c .none vu xs) hu λ i t=>.mp λ n hn=>by
  obtain rfl:=gd hn
  refine⟨_,_,.none,.int _ t,?_,slicePick_size_le ..⟩
  rw[slicePick_upto']
  exact hi'.take n
 induction hu using b8.casesOn with
 |none=>exact H
 |_=>exact .nonB (P:=λ vl=>wm prog w c vl _ xs) hl H2
end
end
section
variable{v:Value}{d:D}{t whole:Sem Value}{c:(Bool→St→aD)→aD}
abbrev dh:=Expr→Loc→St→(D→St→aD)→aD
abbrev mP:=Expr→Loc→St→(Bool→St→aD)→aD
noncomputable def HE(X:Cx)(env:Env)(ev:dh):Prop:=∀e loc p,X.rep p→ax X p env loc→SE X.e p (eval e env) (ev e loc p.st)
noncomputable def HT(X:Cx)(env:Env)(et:mP):Prop:=∀e loc p,X.rep p→ax X p env loc→ST X.e p (isTrue e env (eval e env)) (et e loc p.st)
theorem gk{X:Cx}{p q:Pt}(m:X.e.mv p q)(h:X.den p v d):X.den q v d:=b8.mono h (m.le λ _ h=>h.elim)
noncomputable def um:D→Option Bool
 | .none=>some false
 | .bool b=>some b
 |_=>none
section
variable{X:Cx}{p q:Pt}{out:aD}{Q:VS}{B:Bool→Shared→Prop}{E:VS}
theorem SE.via{c:(D→St→aD)→aD}(h:SE X.e q t c)(m:X.e.mv p q){k:D→St→aD}(hc:af (c k)=out)(ho:out≠.no)(kQ:∀v q d st,X.e.mv p q→q.st=st→X.den q v d→af (k d st)=out→Q v q.s):wpAny X.m X.A t Q E q.s:=
 h k out hc ho Q E λ v q' d st m' e hv hk=>kQ v q' d st (dY m m') e hv hk
theorem ST.via{t:Sem Bool}(h:ST X.e q t c)(m:X.e.mv p q){k:Bool→St→aD}(hc:af (c k)=out)(ho:out≠.no)(kQ:∀b q st,X.e.mv p q→q.st=st→af (k b st)=out→B b q.s):wpAny X.m X.A t B E q.s:=
 h k out hc ho B E λ b q' st m' e hk=>kQ b q' st (dY m m') e hk
theorem SE.go{c:(D→St→aD)→aD}(h:SE X.e p t c){k:D→St→aD}(hc:af (c k)=out)(ho:out≠.no)(kQ:∀v q d,X.e.mv p q→X.den q v d→af (k d q.st)=out→Q v q.s):wpAny X.m X.A t Q E p.s:=
 h k out hc ho Q E λ v q' d st m' e hv hk=>kQ v q' d m' hv (e▸hk)
theorem ST.go{t:Sem Bool}(h:ST X.e p t c){k:Bool→St→aD}(hc:af (c k)=out)(ho:out≠.no)(kQ:∀b q,X.e.mv p q→af (k b q.st)=out→B b q.s):wpAny X.m X.A t B E p.s:=
 h k out hc ho B E λ b q' st m' e hk=>kQ b q' m' (e▸hk)
end
section
variable{X:Cx}{env:Env}{ev:dh}{et:mP}{p:Pt}{loc:Loc}{pos:Pos}
theorem iH{b:Bool}(hv:X.den p v d)(h:um d=some b){Q:Bool→Shared→Prop}{E:VS}(hQ:Q b p.s):wpAny X.m X.A (truthy v) Q E p.s:=by
 revert h
 induction hv using b8.casesOn with
 |none=>exact λ h=>truthy_none (an h▸hQ)
 |bool b=>exact λ h=>wpAny_truthy_bool (an h▸hQ)
 |_=>exact nsK
theorem nB(he:HE X env ev)(R:X.rep p)(F:ax X p env loc){l r:Expr}{k2:D→D→St→aD}{out:aD}(hc:af ((ev l loc p.st λ a st=>ev r loc st (k2 a)))=out)(ho:out≠.no){T:Value→Value→Shared→Prop}{E:VS}(h:∀a b q d e,X.e.mv p q→X.den q a d→X.den q b e→af (k2 d e q.st)=out→T a b q.s):
  wpAny X.m X.A (eval l env) (λ a s₁=>wpAny X.m X.A (eval r env) (λ b s₂=>T a b s₂) E s₁) E p.s:=
 (he l loc p R F).go hc ho λ a q d m ha hk=>(he r loc q m.rep (F.keepE m R)).go hk ho λ b q' e m' hb hk'=>h a b q' d e (dY m m') (gk m' ha) hb hk'
noncomputable def N2(ev:dh)(op:Operator)(l r:Expr):Loc→St→(D→St→aD)→aD:=λ loc st k=>
 ev l loc st λ a st=>ev r loc st λ b st=>gH (oM st op a b) st k
theorem Lc(he:HE X env ev)(R:X.rep p)(F:ax X p env loc){op:Operator}{l r:Expr}:SE X.e p (eval (.BinOp l op r pos) env) (N2 ev op l r loc p.st):=λ k out hc ho Q E kQ=>
 wpAny_BinOp (nB he R F hc ho λ a b q d e m ha hb hk=>(nL hk ho).elim λ x h=>DM (X:=X.e) m.rep ha hb h.1 Q E λ v q' m' e' hv=>kQ v q' x q.st (dY m m') e' hv h.2)
noncomputable def Ho(ev:dh)(op:CmpOp)(l r:Expr):Loc→St→(D→St→aD)→aD:=λ loc st k=>
 cond (behindInMarks op r) .no (ev l loc st λ a st=>ev r loc st λ b st=>mc (dF st op a b) st λ x st=>k (.bool x) st)
theorem K5(hr:dO X)(hs:sysModules<X.h₁.objs.size)(he:HE X env ev)(R:X.rep p)(F:ax X p env loc){op:CmpOp}{l r:Expr}:SE X.e p (eval (.Compare l [op] [r] pos) env) (Ho ev op l r loc p.st):=λ k out hc ho Q E kQ=>
 have hc:=cY hc ho
 wpAny_Compare1 (nB he R F hc.2 ho λ a b q d e m ha hb hk=>(iL hk ho).elim λ x h=>iZ (X:=X.e) m.rep hr hs ha hb h.1 Q E λ v q' m' e' hv=>kQ v q' _ q.st (dY m m') e' hv h.2) hc.1
theorem K4(hr:dO X)(hs:sysModules<X.h₁.objs.size)(he:HE X env ev)(R:X.rep p)(F:ax X p env loc){op:CmpOp}{l r:Expr}{whole:Sem Value}:ST X.e p (isTrue (.Compare l [op] [r] pos) env whole) (λ k=>Ho ev op l r loc p.st λ d st=>cS (um d) λ b=>k b st):=λ k out hc ho Q E kQ=>
 have hc:=cY hc ho
 wpAny_isTrue_Compare1 (nB he R F hc.2 ho λ a b q d e m ha hb hk=>(iL hk ho).elim λ x h=>iZ (X:=X.e) m.rep hr hs ha hb h.1 _ E λ v q' m' e' hv=>iH (X:=X.e) hv rfl (kQ _ q' q.st (dY m m') e' h.2)) hc.1
noncomputable def rG(ev:dh)(o1 o2:CmpOp)(l r1 r2:Expr):Loc→St→(Bool→St→aD)→aD:=λ loc st k=>
 cond (lastMarks [o1,o2] [r1,r2]) .no (ev l loc st λ a st=>ev r1 loc st λ b st=>mc (dF st o1 a b) st λ y st=>cond y (ev r2 loc st λ c st=>mc (dF st o2 b c) st k) (k false st))
theorem w4(hr:dO X)(hs:sysModules<X.h₁.objs.size)(he:HE X env ev)(R:X.rep p)(F:ax X p env loc){op:CmpOp}{l r:Expr}{k:D→Bool→St→aD}{out:aD}(hc:af (ev l loc p.st λ a st=>ev r loc st λ b st=>mc (dF st op a b) st (k b))=out)(ho:out≠.no){T:Value→Value→Bool→Shared→Prop}{E:VS}(h:∀b c q e t,X.e.mv p q→X.den q b e→X.den q c (.bool t)→af (k e t q.st)=out→T b c t q.s):
  wpAny X.m X.A (eval l env) (λ a s₁=>wpAny X.m X.A (eval r env) (λ b s₂=>wpAny X.m X.A (compareOp op a b) (λ c s₃=>wpAny X.m X.A (truthy c) (T b c) E s₃) E s₂) E s₁) E p.s:=
 nB he R F hc ho λ a b q d e m ha hb hk=>(iL hk ho).elim λ x hx=>iZ (X:=X.e) m.rep hr hs ha hb hx.1 _ E λ v q' m' e' hv=>iH (X:=X.e) hv rfl (h b v q' e x (dY m m') (gk m' hb) hv (e'▸hx.2))
theorem Dz(hr:dO X)(hs:sysModules<X.h₁.objs.size)(he:HE X env ev)(R:X.rep p)(F:ax X p env loc){o1 o2:CmpOp}{l r1 r2:Expr}:SE X.e p (eval (.Compare l [o1,o2] [r1,r2] pos) env) (λ k=>rG ev o1 o2 l r1 r2 loc p.st λ b st=>k (.bool b) st):=λ k out hc ho Q E kQ=>
 have hc:=cY hc ho
 Compare_chain (bW (w4 (T:=λ b c t s=>if t then wpAny X.m X.A (compareChain pos b [o2] [eval r2 env]) Q E s else Q c s) hr hs he R F hc.2 ho λ b c q e t m hb hcv hk=>by
  induction t using Bool.casesOn with
  |false=>exact kQ c q _ q.st m rfl hcv hk
  |true=>exact chain_last ((he r2 loc q m.rep (F.keepE m R)).go hk ho λ c2 q2 dc m2 hcd hk2=>(iL hk2 ho).elim λ x hx=>iZ (X:=X.e) m2.rep hr hs (gk m2 hb) hcd hx.1 Q E λ v q3 m3 e3 hv3=>kQ v q3 _ q2.st (dY m (dY m2 m3)) e3 hv3 hx.2)) (λ a s h=>chain_link h) λ _ _ h=>h) hc.1
theorem Dx(hr:dO X)(hs:sysModules<X.h₁.objs.size)(he:HE X env ev)(R:X.rep p)(F:ax X p env loc){o1 o2:CmpOp}{l r1 r2:Expr}{whole:Sem Value}:ST X.e p (isTrue (.Compare l [o1,o2] [r1,r2] pos) env whole) (rG ev o1 o2 l r1 r2 loc p.st):=λ k out hc ho Q E kQ=>
 have hc:=cY hc ho
 isTrue_chain (bW (w4 (T:=λ b c t s=>if t then wpAny X.m X.A (testChain pos b [o2] [eval r2 env]) Q E s else Q false s) hr hs he R F hc.2 ho λ b c q e t m hb hcv hk=>by
  induction t using Bool.casesOn with
  |false=>exact kQ _ q q.st m rfl hk
  |true=>exact test_last ((he r2 loc q m.rep (F.keepE m R)).go hk ho λ c2 q2 dc m2 hcd hk2=>(iL hk2 ho).elim λ x hx=>iZ (X:=X.e) m2.rep hr hs (gk m2 hb) hcd hx.1 _ E λ v q3 m3 e3 hv3=>iH (X:=X.e) hv3 rfl (kQ _ q3 q2.st (dY m (dY m2 m3)) e3 hx.2))) (λ a s h=>test_link h) λ _ _ h=>h) hc.1
noncomputable def MS(et:mP)(x:Expr):Loc→St→(Bool→St→aD)→aD:=λ loc st k=>et x loc st λ b st=>k (!b) st
theorem JI(ht:HT X env et)(R:X.rep p)(F:ax X p env loc){x:Expr}{whole:Sem Value}:ST X.e p (isTrue (.UnaryOp .Not x pos) env whole) (MS et x loc p.st):=λ k out hc ho Q E kQ=>
 isTrue_not (ht x loc p R F _ out hc ho _ E λ b q st m e hk=>kQ _ q st m e hk)
noncomputable def Mc(op:UnaryOp)(d:D):Option D:=match op with
 | .Not=>(um d).map λ b=>.bool (!b)
 | .USub=>d.int?.map λ i=>.int (-i)
 |_=>none
noncomputable def unC(ev:dh)(op:UnaryOp)(x:Expr):Loc→St→(D→St→aD)→aD:=λ loc st k=>ev x loc st λ d st=>cS (Mc op d) λ d=>k d st
theorem Ex(R:X.rep p){op:UnaryOp}{v:Value}{d:D}(hv:X.den p v d):b6 (λ r=>GA X X.den p (unaryOp op v) r p.st) (Mc op d):=by
 induction op using UnaryOp.casesOn with
 |Not=>exact .mp λ b hb Q E kQ=>not_of (iH hv hb (kQ _ p (Mv.refl R) rfl (.bool _)))
 |USub=>induction hv using b8.casesOn with
  |int i t=>exact λ Q E kQ=>PySem.P.neg_int (kQ _ ⟨_,p.ρ,p.st⟩ (Mv.tick R) rfl (.int _ _))
  |_=>exact ag
 |_=>exact ag
theorem Mb(he:HE X env ev)(R:X.rep p)(F:ax X p env loc){op:UnaryOp}{x:Expr}:SE X.e p (eval (.UnaryOp op x pos) env) (unC ev op x loc p.st):=λ k out hc ho Q E kQ=>
 UnaryOp_ ((he x loc p R F).go hc ho λ v q d m hv hk=>(bX hk ho).elim λ r h=>aT (P:=λ r=>GA X.e X.den q (unaryOp op v) r q.st) (Ex (X:=X.e) m.rep hv) h.1 Q E λ v q' m' e hv=>kQ v q' r q.st (dY m m') e hv h.2)
noncomputable def Ls(ev:dh):List Expr→Loc→St→(D→St→aD)→aD
 |[],_,_,_=>.no
 |e::es,loc,st,k=>cond es.isEmpty (ev e loc st k) (ev e loc st λ d st=>cS (um d) λ b=>cond b (Ls ev es loc st k) (k d st))
noncomputable def Pa(ev:dh):List Expr→Loc→St→(D→St→aD)→aD
 |[],_,_,_=>.no
 |e::es,loc,st,k=>cond es.isEmpty (ev e loc st k) (ev e loc st λ d st=>cS (um d) λ b=>cond b (k d st) (Pa ev es loc st k))
theorem Lq(he:HE X env ev)(es:List Expr):∀p:Pt,X.rep p→ax X p env loc→SE X.e p (eval (.BoolOp .And es pos) env) (Ls ev es loc p.st):=by
 induction es with
 |nil=>exact λ p R F k out hc ho=>absurd hc.symm ho
 |cons e es ih=>
  intro p R F k out hc ho Q E kQ
  induction es using List.casesOn with
  |nil=>exact BoolOp_one (he e loc p R F k out hc ho Q E kQ)
  |cons e2 es=>
   refine BoolOp_and ((he e loc p R F).go hc ho λ v q d m hv hk=>(bX hk ho).elim λ b h=>iH (X:=X.e) hv h.1 ?_)
   obtain⟨_,hk⟩:=h
   induction b using Bool.casesOn with
   |false=>exact kQ v q d q.st m rfl hv hk
   |true=>exact(ih q m.rep (F.keepE m R)).via m hk ho kQ
theorem ML(he:HE X env ev)(es:List Expr):∀p:Pt,X.rep p→ax X p env loc→SE X.e p (eval (.BoolOp .Or es pos) env) (Pa ev es loc p.st):=by
 induction es with
 |nil=>exact λ p R F k out hc ho=>absurd hc.symm ho
 |cons e es ih=>
  intro p R F k out hc ho Q E kQ
  induction es using List.casesOn with
  |nil=>exact BoolOp_one (he e loc p R F k out hc ho Q E kQ)
  |cons e2 es=>
   refine BoolOp_or ((he e loc p R F).go hc ho λ v q d m hv hk=>(bX hk ho).elim λ b h=>iH (X:=X.e) hv h.1 ?_)
   obtain⟨_,hk⟩:=h
   induction b using Bool.casesOn with
   |true=>exact kQ v q d q.st m rfl hv hk
   |false=>exact(ih q m.rep (F.keepE m R)).via m hk ho kQ
noncomputable def Lr(et:mP):List Expr→Loc→St→(Bool→St→aD)→aD
 |[],_,st,k=>k true st
 |e::es,loc,st,k=>et e loc st λ b st=>cond b (Lr et es loc st k) (k false st)
noncomputable def O9(et:mP):List Expr→Loc→St→(Bool→St→aD)→aD
 |[],_,st,k=>k false st
 |e::es,loc,st,k=>et e loc st λ b st=>cond b (k true st) (O9 et es loc st k)
theorem Lo(ht:HT X env et)(es:List Expr):∀p:Pt,X.rep p→ax X p env loc→ST X.e p (isTrue (.BoolOp .And es pos) env whole) (Lr et es loc p.st):=by
 induction es with
 |nil=>exact λ p R F k out hc ho Q E kQ=>isTrue_and_nil (kQ true p p.st (Mv.refl R) rfl hc)
 |cons e es ih=>
  refine λ p R F k out hc ho Q E kQ=>isTrue_and ((ht e loc p R F).go hc ho λ b q m hk=>?_)
  induction b using Bool.casesOn with
  |true=>exact(ih q m.rep (F.keepE m R)).via m hk ho kQ
  |false=>exact kQ false q q.st m rfl hk
theorem MK(ht:HT X env et)(es:List Expr):∀p:Pt,X.rep p→ax X p env loc→ST X.e p (isTrue (.BoolOp .Or es pos) env whole) (O9 et es loc p.st):=by
 induction es with
 |nil=>exact λ p R F k out hc ho Q E kQ=>isTrue_or_nil (kQ false p p.st (Mv.refl R) rfl hc)
 |cons e es ih=>
  refine λ p R F k out hc ho Q E kQ=>isTrue_or ((ht e loc p R F).go hc ho λ b q m hk=>?_)
  induction b using Bool.casesOn with
  |false=>exact(ih q m.rep (F.keepE m R)).via m hk ho kQ
  |true=>exact kQ true q q.st m rfl hk
noncomputable def ifC(et:mP)(ev:dh)(t b o:Expr):Loc→St→(D→St→aD)→aD:=λ loc st k=>et t loc st λ x st=>cond x (ev b loc st k) (ev o loc st k)
theorem Np(ht:HT X env et)(he:HE X env ev)(R:X.rep p)(F:ax X p env loc){t b o:Expr}:SE X.e p (eval (.IfExp t b o pos) env) (ifC et ev t b o loc p.st):=by
 refine λ k out hc ho Q E kQ=>IfExp_ ((ht t loc p R F).go hc ho λ x q m hk=>?_)
 induction x using Bool.casesOn with
 |true=>exact(he b loc q m.rep (F.keepE m R)).via m hk ho kQ
 |false=>exact(he o loc q m.rep (F.keepE m R)).via m hk ho kQ
noncomputable def ifT(et:mP)(t b o:Expr):Loc→St→(Bool→St→aD)→aD:=λ loc st k=>et t loc st λ x st=>cond x (et b loc st k) (et o loc st k)
theorem Nn(ht:HT X env et)(R:X.rep p)(F:ax X p env loc){t b o:Expr}{whole:Sem Value}:ST X.e p (isTrue (.IfExp t b o pos) env whole) (ifT et t b o loc p.st):=by
 refine λ k out hc ho Q E kQ=>isTrue_IfExp ((ht t loc p R F).go hc ho λ x q m hk=>?_)
 induction x using Bool.casesOn with
 |true=>exact(ht b loc q m.rep (F.keepE m R)).via m hk ho kQ
 |false=>exact(ht o loc q m.rep (F.keepE m R)).via m hk ho kQ
noncomputable def nI(ev:dh)(e:Expr):Loc→St→(Bool→St→aD)→aD:=λ loc st k=>ev e loc st λ d st=>cS (um d) λ b=>k b st
theorem ko(he:HE X env ev)(R:X.rep p)(F:ax X p env loc){e:Expr}(hp:isTrue e env (eval e env)=(do let v←eval e env;standAt e.pos;holding [v] (truthy v))):ST X.e p (isTrue e env (eval e env)) (nI ev e loc p.st):=λ k out hc ho Q E kQ=>
 isTrue_plain ((he e loc p R F).go hc ho λ v q d m hv hk=>(bX hk ho).elim λ b h=>iH hv h.1 (kQ b q q.st m rfl h.2)) hp
end
end
section
variable{o:Expr}{attr:Str}
theorem q8(l b:Addr)(items items2:Array Value)(n n2:Nat)(dd2:Option Addr)(sl2:Array (Option Value))(hs:items.size+items2.size≤sizeLine):
  Meets (Builtin.«list.extend» ⟨[.ref l,.ref b],[]⟩) (λ _ R s=>s.heap.get? l=some {cls:= .type "list",dict:=none,data:= .seq items n,slots:= #[]}∧s.heap.get? b=some {cls:= .type "list",dict:=dd2,data:= .seq items2 n2,slots:=sl2}∧R (.ok (.ret Value.none)) {s with heap:=s.heap.update l (Obj.mapSeq λ x=>x++items2),toks:=s.toks}):=
 .of_wp λ prog w A R s h=>by
  have hc0:¬(!items.isEmpty&&Builtin.List.listTooLong (items.size+items2.size))=true:=by
   have:Builtin.List.listTooLong (items.size+items2.size)=false:=by unfold Builtin.List.listTooLong;exact bB (by omega)
   rw[this,Bool.and_false];decide
  have hc1:items.size≤sizeLine:=by omega
  obtain⟨hp,g,d,tk,os⟩:=s;obtain⟨hl,hb,h⟩:=h;have f1:=AutoSeq1.idx_int;have f2:=AutoSeq1.sub_tuple_tuple;have f3:=AutoSeq1.sub_list_list;have f4:=AutoSeq1.sub_tuple_list;have f5:=AutoSeq1.sub_list_tuple;
  have hz':(items++items2).size≤sizeLine+1:=by rw[Array.size_append];omega
  wp_walk using(wpAny_updateSeq hl rfl (hz:=hc1) (_hz':=hz')),AutoSeq1.wpAny_loadPart' hl,AutoSeq1.wpAny_loadPart' hb;exact⟨_,rfl,h⟩
section
variable{X:Cx}{p:Pt}{v u:Value}{a b d:D}{ds es:List D}
theorem vT(R:X.rep p){j:Nat}(hu:X.den p u (.ob j))(ho:aW p.st.σ j=some (.list ds))(hb:ed X p v es)(hlb:p.s.TypeIs v "list")(hsz:ds.length+es.length≤sizeLine):
  GA X X.den p (call (.builtin "list.extend") [u,v]) .none (p.st.put j (.list (ds++es))):=by
 intro Q E kQ
 obtain⟨xs,m,rfl,e,hl,hi⟩:=kI R hu ho
 obtain⟨l,o,ws,n,rfl,ho',hi'⟩:=km hb hlb
 exact call_meets PySem.F.slot_list_extend ⟨_,hl,rfl⟩ PySem.F.entry_list_extend (PySem.F.args_list_extend_2 _ _) (q8 _ l xs ws m n o.dict o.slots (by rw[hi.size,hi'.size];exact hsz))
  ⟨hl,ho',kQ .none ⟨_,p.ρ,p.st.put j (.list (ds++es))⟩ (kg R ho e hl _ λ c l=>by rw[Array.toList_append];exact(hi.mono l).append (hi'.mono l)) rfl .none⟩
end
section
variable{X:Cx}{env:Env}{ev:dh}{et:mP}{p:Pt}{loc:Loc}{pos:Pos}
noncomputable def Jb(ev:dh)(es:List Expr):Loc→St→(D→St→aD)→aD:=λ loc st k=>de ev es loc st λ ds st=>cond (small ds) (k (.tup ds) st) .no
theorem Aj(he:HE X env ev)(R:X.rep p)(F:ax X p env loc){es:List Expr}{n:Nat}:SE X.e p (eval (.Tuple es n pos) env) (Jb ev es loc p.st):=λ k out hc ho Q E kQ=>by
 rw[arm_eval_Tuple]
 exact aa (aX (aa (ir (X:=X) (λ e q R F=>he e loc q R F) es p R F _ out hc ho _ E λ vs q ds st m e hvs hk=>
  have hk:=ce hk ho;sH (X:=X.e) m.rep hvs (eh hk.1) Q E λ v q' m' e' hv=>kQ v q' _ q.st (dY m m') e' hv (e▸hk.2))))
noncomputable def M8(mb:Bool)(ev:dh)(es:List Expr):Loc→St→(D→St→aD)→aD:=λ loc st k=>de ev es loc st λ ds st=>cond (small ds) (cond mb (k (.ob st.next) (st.add (.list ds))) (k (.lst ds) st)) .no
theorem J5{mb:Bool}(he:HE X env ev)(R:X.rep p)(F:ax X p env loc){es:List Expr}:SE X.e p (eval (.List es pos) env) (M8 mb ev es loc p.st):=λ k out hc ho Q E kQ=>by
 rw[arm_eval_List]
 refine aa (aX (aa (ir (X:=X) (λ e q R F=>he e loc q R F) es p R F _ out hc ho _ E λ vs q ds st m e hvs hk=>?_)))
 obtain⟨hs,hk⟩:=ce hk ho
 induction mb using Bool.casesOn with
 |true=>exact sI (X:=X.e) m.rep hvs (eh hs) Q E λ v q' m' e' hv=>kQ v q' _ _ (dY m m') e' hv (e▸hk)
 |false=>exact vc (X:=X.e) m.rep hvs (eh hs) Q E λ v q' m' e' hv=>kQ v q' _ q.st (dY m m') e' hv (e▸hk)
theorem KZ(R:X.rep p):SE X.e p (eval (.Dict [] [] pos) env) (λ k=>k (.ob p.st.next) (p.st.add (.dict []))):=by
 intro k out hc ho Q E kQ
 rw[arm_eval_Dict]
 exact aa (aX (sJ (X:=X.e) R Q E λ v q m e hv=>kQ v q _ _ m e hv hc))
noncomputable def Jj(ev:dh)(a i:Expr):Loc→St→(D→St→aD)→aD:=λ loc st k=>
 ev a loc st λ x st=>ev i loc st λ y st=>gH (gB st x y) st k
theorem Ay(hs:sysModules<X.h₁.objs.size)(he:HE X env ev)(R:X.rep p)(F:ax X p env loc){a i:Expr}:SE X.e p (eval (.Subscript a i pos) env) (Jj ev a i loc p.st):=λ k out hc ho Q E kQ=>
 Subscript_ (nB he R F hc ho λ x y q d e m hx hy hk=>(nL hk ho).elim λ z h=>yW (X:=X.e) m.rep hs hx hy h.1 Q E λ v q' m' e' hv=>kQ v q' _ q.st (dY m m') e' hv h.2)
noncomputable def iK:Expr→Bool
 | .Call _ _ _ _=>false
 |_=>true
theorem oN{whole:Sem Value}(h:iK o=true):attributeBase o attr env whole=whole:=by
 revert h
 induction o using Expr.casesOn<;>first|exact λ _=>rfl|exact ftK
theorem qo(h:iK o=true):eval (.Attribute o attr pos) env=(do
   let ov←eval o env
   standAt pos.atName
   let r←holding [ov] (getAttr ov attr true)
   letTemporaryGo o ov r
   pure r):=by
 rw[arm_eval_Attribute,oN h]
end
end
section
variable{ds:List D}{mb:Bool}
section
variable{X:Cx}{env:Env}{ev:dh}{et:mP}{p:Pt}{loc:Loc}{pos:Pos}
noncomputable def Be(ev:dh)(o:Option Expr)(loc:Loc)(st:St)(k:D→St→aD):aD:=o.elim (k .none st) λ e=>ev e loc st k
theorem wM(he:HE X env ev)(R:X.rep p)(F:ax X p env loc)(o:Option Expr):SE X.e p (evalPart o env) (Be ev o loc p.st):=by
 induction o using Option.casesOn with
 |none=>exact λ k out hc ho Q E kQ=>ak (kQ .none p .none p.st (Mv.refl R) rfl .none hc)
 |some e=>exact he e loc p R F
noncomputable def D.tup?:D→Option (List D)
 | .tup ds=>some ds
 |_=>Option.none
noncomputable def Dc(lo hi:D)(ds:List D):Option (List D):=cond hi.noneB (lo.int?.bind λ i=>(jK i).bind λ n=>cond (Nat.blt 0 n&&(Nat.ble n (aw ds)&&small ds)) (some (iX n ds)) none) none
noncomputable def tH(mb:Bool)(st:St)(x lo hi:D):Option (D×St):=x.tup?.elim ((ic st x).bind λ ds=>cond (small ds) ((Hj lo hi ds).map λ es=>cond mb (.ob st.next,st.add (.list es)) (.lst es,st)) none) λ ds=>(Dc lo hi ds).map λ es=>(.tup es,st)
noncomputable def NK(mb:Bool)(ev:dh)(a:Expr)(l u:Option Expr):Loc→St→(D→St→aD)→aD:=λ loc st k=>
 ev a loc st λ x st=>Be ev l loc st λ lo st=>Be ev u loc st λ hi st=>.node (tH mb st x lo hi) k
abbrev gz(vl vu:Value):Obj:={cls:= .type "slice",data:= .fields #[vl,vu,.none]}
noncomputable def wn(X:Cx)(p:Pt)(v vl vu:Value)(r:D×St):Prop:=∀(value:Expr) (l u:Option Expr) (pp:Pos) (Q E:VS),(∀w q,X.mv p q→q.st=r.2→X.den q w r.1→Q w q.s)→wpAny X.m X.A (subscriptTail value (.Slice l u none pp) v (.ref p.s.heap.objs.size)) Q E (p.pushO (gz vl vu)).s
theorem vZ{v vl vu:Value}{x lo hi:D}{es:List D}(R:X.rep p)(hv:X.den p v x)(hl:X.den p vl lo)(hu:X.den p vu hi)(hx:ic p.st x=some ds)(hs:small ds=true)(hcut:Hj lo hi ds=some es):wn X p v vl vu (cond mb (.ob p.st.next,p.st.add (.list es)) (.lst es,p.st)):=λ value l u pp Q E kQ=>by
 obtain⟨a,o,xs,n,rfl,ho,hi⟩:=km (jn R hv hx).1 (jn R hv hx).2
 obtain⟨pa,pb,hpa,hpb,hpick,hpsz⟩:=Db hl hu hi hcut
 have hsz:xs.size≤sizeLine:=hi.size▸eh hs
 have M:X.mv p (p.pushO (gz vl vu)):=Mv.push R _
 have ho':=ah (gz vl vu) ho
 have hp:=hpick.mono (hV (P:=X.P) (o:=gz vl vu))
 refine tail_any ⟨_,ho',rfl⟩ slot_list_getitem.lookup (wpAny_getItem_list_slice (s:=(p.pushO (gz vl vu)).s) ⟨_,ho',rfl,n,rfl⟩ (Heap.IsSliceOf.new ..) hpa hpb .none nofun ?_ hsz) (dn _ _ _).choose_spec
 induction mb using Bool.casesOn with
 |true=>
  have M':=p7 M.rep (S:=(p.pushO (gz vl vu)).s.heap.objs.size) (s':=((p.pushO (gz vl vu)).pushO {cls:= .type "list",data:= .seq (slicePick xs pa pb none)}).s) (λ b o=>ah _) (ad (bT _) (aM (bA ..).symm)) rfl rfl rfl (aq _) (Heap.get?_push_size _ rfl) hp
  exact kQ _ _ (Mv.trans M M'.1 λ _ h _=>h) rfl M'.2
 |false=>exact kQ _ _ (Mv.trans (W':=X.W) M (Mv.push M.rep _) λ _ h _=>h) rfl (.lst (hn:=rfl) (Heap.get?_push_size _ rfl) rfl rfl M.rep.new_U (hp.mono hV))
theorem zz{v vl vu:Value}{lo hi:D}(R:X.rep p)(hv:X.den p v (.tup ds))(hl:X.den p vl lo)(hu:X.den p vu hi):b6 (λ es=>wn X p v vl vu (.tup es,p.st)) (Dc lo hi ds):=by
 apply b6.nonB (P:=λ vu es=>wn X p v vl vu (.tup es,p.st)) hu
 refine .int (P:=λ vl es=>wn X p v vl .none (.tup es,p.st)) hl λ i t=>.bnd λ n hn=>.cond λ h value l u pp Q E kQ=>?_
 obtain⟨h1,h⟩:=(Bool.and_eq_true _ _).mp h
 obtain⟨h2,hs⟩:=(Bool.and_eq_true _ _).mp h
 have h2:=bf ds▸Nat.le_of_ble_eq_true h2
 obtain rfl:=gd hn
 cases hv with
 |tup ho hc hd hu' hi=>
  have M:X.mv p (p.pushO (gz (.int (n:Int) t) .none)):=Mv.push R _
  have ho':=ah (gz (.int (n:Int) t) .none) ho
  have e:=bH.size hi
  exact tail_any ⟨_,ho',hc⟩ PySem.F.slot_tuple_getitem.lookup
   (getItem_tuple_from (s:=(p.pushO (gz (.int (n:Int) t) .none)).s) ⟨_,ho',hc,_,hd⟩ (Heap.IsSliceOf.new ..) (bp.mp h1) (e▸h2) (kQ _ _ (Mv.trans (W':=X.W) M (Mv.push M.rep _) λ _ h _=>h) rfl
    (.tup (Heap.get?_push_size _ rfl) rfl rfl M.rep.new_U (((hi.drop n).mono hV).mono hV))) (e▸eh hs)) (dn _ _ _).choose_spec
theorem Dd{v vl vu:Value}{x lo hi:D}(R:X.rep p)(hv:X.den p v x)(hl:X.den p vl lo)(hu:X.den p vu hi):b6 (wn X p v vl vu) (tH mb p.st x lo hi):=by
 have H:b6 (wn X p v vl vu) ((ic p.st x).bind λ ds=>cond (small ds) ((Hj lo hi ds).map λ es=>cond mb (.ob p.st.next,p.st.add (.list es)) (.lst es,p.st)) none):= .bnd λ ds hds=>.cond λ hs=>.mp λ es hes=>vZ R hv hl hu hds hs hes
 induction x using D.casesOn with
 |tup ds=>exact .map (zz R hv hl hu)
 |_=>exact H
theorem K1(he:HE X env ev)(R:X.rep p)(F:ax X p env loc){a:Expr}{l u:Option Expr}{pp:Pos}:SE X.e p (eval (.Subscript a (.Slice l u none pp) pos) env) (NK mb ev a l u loc p.st):=λ k out hc ho Q E kQ=>by
 refine Subscript_ ((he a loc p R F).go hc ho λ v q0 x m0 hv0 hk0=>?_)
 have F0:=F.keepE m0 R
 refine wpAny_Slice ((wM he m0.rep F0 l).go hk0 ho λ vl q1 lo m1 hv1 hk1=>?_)
 refine(wM he m1.rep (F0.keepE m1 m0.rep) u).go hk1 ho λ vu q2 hi m2 hv2 hk2=>?_
 rw[evalPart_none]
 obtain⟨r,hr,hk2⟩:=kp hk2 ho
 exact ak (aT (P:=wn X.e q2 v vl vu) (Dd (X:=X.e) m2.rep (gk m2 (gk m1 hv0)) (gk m2 hv1) hv2) hr _ _ _ _ Q E λ w q m e hw=>kQ w q _ _ (dY (dY m0 (dY m1 m2)) m) e hw hk2)
end
end
section
variable{o:Expr}{apos:Pos}{args:List Expr}{l:Addr}
theorem gn{a b:Str}(h:c7 a b=true):a=b:=bP ((eV a b).symm.trans h)
section
variable{env:Env}{pos:Pos}
theorem nM{es:List Expr}(h:noStar es=true):(backTo pos (starEach es env)).all (λ x=>!x.1)=true:=by
 induction es with
 |nil=>rfl
 |cons e es ih=>
  obtain⟨hs,h⟩:=(Bool.and_eq_true _ _).mp h
  rw[cx (mG hs),cK,List.all_cons,ih h];rfl
noncomputable def J2(o:Expr)(apos pos:Pos)(args:List Expr):Bool:=iK o&&(noStar args&&(Nat.blt (aw args) 30&&apos.endLine==pos.line))
theorem qW(h:J2 o apos pos args=true):iK o=true∧noStar args=true∧args.length<30∧(apos.endLine==pos.line)=true:=by
 obtain⟨h1,h⟩:=(Bool.and_eq_true _ _).mp h
 obtain⟨h2,h⟩:=(Bool.and_eq_true _ _).mp h
 obtain⟨h3,h⟩:=(Bool.and_eq_true _ _).mp h
 exact⟨h1,h2,bf args▸bp.mp h3,h⟩
theorem iO{prog:Program}{w:World}{A:Around}{E:VS}{s:Shared}{name:Str}{Q:VS}(hm:J2 o apos pos args=true)(h:wpAny (model prog w) A (eval o env) (λ ov s₁=>∀pl,wpAny (model prog w) A (getMethod ov name pl) (λ r s₂=>wpAny (model prog w) A (callWith pos r.1 r.2 (backTo pos (starEach args env)) []) Q E s₂) E s₁) E s):
  wpAny (model prog w) A (eval (.Call (.Attribute o name apos) args [] pos) env) Q E s:=by
 obtain⟨hb,hn,hl,hline⟩:=qW hm
 rw[arm_eval_Call,oN hb]
 refine aa (bW h (λ ov s₁ h₁=>aa (aX ?_)) λ _ _ e=>e)
 have hform:methodCallForm (args.length+([]:List Keyword).length) (backTo pos (starEach args env)) (backToKw pos (keywordEach [] env))=true:=by
  unfold methodCallForm
  rw[nM hn]
  exact bI hl
 have hpos:methodCallPos true o env apos pos=pure pos:=by unfold methodCallPos;rw[hline];rfl
 unfold methodCall calleeOf
 rw[hform]
 exact aa (aV (bW (h₁ _) (λ r s₂ h₂=>hpos▸aa (ak h₂)) λ _ _ e=>e))
end
inductive oZ where
 |append|pop|extend|get
noncomputable def oZ.val:oZ→Value
 | .append=>.builtin "list.append"| .pop=>.builtin "list.pop"| .extend=>.builtin "list.extend"| .get=>.builtin "dict.get"
noncomputable def w3(name:Str):Option oZ:=cond (c7 name "append") (some .append) (cond (c7 name "pop") (some .pop) (cond (c7 name "extend") (some .extend) none))
noncomputable def ry(name:Str):Option oZ:=cond (c7 name "get") (some .get) none
noncomputable def aY.mid(name:Str):aY→Option oZ
 | .list _=>w3 name
 | .dict _=>ry name
 |_=>none
noncomputable def nO(st:St)(a:D)(name:Str):Option oZ:=match a with
 | .ob i=>(aW st.σ i).bind (aY.mid name)
 | .dct _=>ry name
 |_=>none
noncomputable def Ag(l:List D):Option (List D×D):=l.getLast?.map λ d=>(l.dropLast,d)
theorem xI{l r:List D}{d:D}(h:Ag l=some (r,d)):l=r++[d]:=by
 obtain⟨x,hx,e⟩:=bL.mp h
 cases e
 obtain⟨ys,rfl⟩:=List.getLast?_eq_some_iff.mp hx
 rw[List.dropLast_concat]
noncomputable def mf(st:St):D→Option (Nat×List D)
 | .ob i=>((aW st.σ i).bind iP).map λ ds=>(i,ds)
 |_=>none
structure qw(st:St)(a:D)(r:Nat×List D):Prop where
 e:a= .ob r.1
 h:aW st.σ r.1=some (.list r.2)
theorem kC{st:St}{a:D}:b6 (qw st a) (mf st a):=by
 induction a using D.casesOn with
 |ob i=>exact .map (.bnd λ o ho=>by
  induction o using aY.casesOn with
  |list ds=>exact⟨rfl,ho⟩
  |_=>exact ag)
 |_=>exact ag
noncomputable def ku(m:oZ)(st:St)(a:D)(ds:List D):Option (D×St):=match m with
 | .append=>(one ds).bind λ d=>(mf st a).bind λ r=>cond (small r.2) (some (.none,st.put r.1 (.list (r.2++[d])))) none
 | .pop=>cond ds.isEmpty ((mf st a).bind λ r=>cond (small r.2) ((Ag r.2).map λ x=>(x.2,st.put r.1 (.list x.1))) none) none
 | .extend=>(one ds).bind λ e=>(mf st a).bind λ r=>cond (small r.2) ((ic st e).bind λ ys=>cond (small ys) (some (.none,st.put r.1 (.list (r.2++ys)))) none) none
 | .get=>two (λ k d=>(dictOf st a).bind λ es=>(dN k).map λ kk=>(gu (aR es kk) d,st)) ds
section
variable{X:Cx}{p:Pt}{v:Value}{a d:D}{vs:List Value}{ds:List D}{st:St}{name:Str}{m:oZ}
noncomputable def GM(X:Cx)(p:Pt)(v:Value)(name:Str)(m:oZ):Prop:=∀(pl:Sem Bool) (Q:Value×List Value→Shared→Prop) (E:VS),Q (m.val,[v]) p.s→wpAny X.m X.A (getMethod v name pl) Q E p.s
theorem vn{o:Obj}(ho:p.s.heap.get? l=some o)(hc:o.cls= .type "list")(hd:o.dict=none):b6 (GM X p (.ref l) name) (w3 name):=
 have nd:∀a,Value.ref l= .ref a→∃o,p.s.heap.get? a=some o∧o.dict=none:=λ a e=>⟨o,Value.ref.inj e▸ho,hd⟩
 mT (λ e pl Q E h=>gn e▸getMethod_builtin ⟨o,ho,hc⟩ PySem.F.plainAttrs_list PySem.F.slot_list_append PySem.type_list_append nd h)
  (mT (λ e pl Q E h=>gn e▸getMethod_builtin ⟨o,ho,hc⟩ PySem.F.plainAttrs_list PySem.F.slot_list_pop PySem.F.type_list_pop nd h)
  (mT (λ e pl Q E h=>gn e▸getMethod_builtin ⟨o,ho,hc⟩ PySem.F.plainAttrs_list PySem.F.slot_list_extend PySem.F.type_list_extend nd h) ag))
theorem oE{kvs:List (cv×Value)}(hm:p.s.heap.DictOf (bV X.prog X.w) l kvs):b6 (GM X p (.ref l) name) (ry name):=
 mT (λ e pl Q E h=>gn e▸getMethod_builtin hm.typeIs PySem.F.plainAttrs_dict PySem.F.slot_dict_get PySem.F.type_dict_get hm.mapOf.noDict h) ag
theorem xc(R:X.rep p)(hv:X.den p v a)(h:nO p.st a name=some m){pl:Sem Bool}{Q:Value×List Value→Shared→Prop}{E:VS}(hQ:Q (m.val,[v]) p.s):wpAny X.m X.A (getMethod v name pl) Q E p.s:=by
 refine aT (P:=GM X p v name) ?_ h pl Q E hQ
 clear h
 induction hv using b8.casesOn with
 |ob i hi=>
  refine .bnd λ o ho=>?_
  have:=R.obj i o ho
  induction o using aY.casesOn with
  |list es=>obtain⟨xs,n,e,ho,hi⟩:HP .. :=this;exact vn ho rfl rfl
  |dict es=>obtain⟨kvs,e,hm,hi⟩:OQ .. :=this;exact oE hm
  |_=>exact ag
 |dct hm=>exact oE hm
 |_=>exact ag
theorem j4{M:Model}{h:Heap}(m:oZ):Looks M h (keeperOf m.val) Keeper.machine:=by induction m using oZ.casesOn<;>exact Looks.of_pure rfl
noncomputable def OP(X:Cx)(p:Pt)(f v:Value)(vs:List Value)(r:D×St):Prop:=GA X X.den p (call f (v::vs)) r.1 r.2
theorem BO(ok:X.ok)(hs:sysModules<X.h₁.objs.size)(R:X.rep p)(hv:X.den p v a)(hvs:X.denL p vs ds)(h:ku m p.st a ds=some (d,st)):GA X X.den p (call m.val (v::vs)) d st:=by
 refine aT (P:=OP X p m.val v vs) ?_ h
 clear h
 have L {r} (h:mf p.st a=some r):qw p.st a r:=aT (P:=qw p.st a) kC h
 induction m using oZ.casesOn with
 |append=>exact gA (P:=OP X p _ v) hvs λ u b hb=>.bnd λ r hr=>.cond λ hsm=>zM R ((L hr).e▸hv) (L hr).h (eh hsm) hb
 |pop=>
  refine .cond λ hn=>.bnd λ r hr=>.cond λ hsm=>.mp λ x hx=>?_
  obtain rfl:=List.isEmpty_iff.mp hn
  obtain⟨e,hg⟩:=L hr
  have hx:=xI (r:=x.1) (d:=x.2) hx
  have hl:=c8 hsm
  rw[hx]at hg hl
  rw[e]at hv
  cases hvs
  exact Jw ok R hv hg (ao (List.length_append▸Nat.lt_succ_self _) (ad hl (by decide)))
 |extend=>exact gA (P:=OP X p _ v) hvs λ u b hb=>.bnd λ r hr=>.cond λ hsm=>.bnd λ ys hy=>.cond λ hsm2=>vT R ((L hr).e▸hv) (L hr).h (jn R hb hy).1 (jn R hb hy).2 (ad (cb (c8 hsm) (c8 hsm2)) (by decide))
 |get=>exact lq (P:=OP X p _ v) hvs λ u w b c hb hc=>.bnd λ es hes=>.mp λ kk hk=>vY R hb hk (ng R hs hv hes) hc
end
end
section
variable{X:Cx}{run:ee}{v:Value}
inductive oY where
 |shared|iso|isoA
noncomputable def th{α:Type}:List (Addr×α)→Addr→Option α
 |[],_=>none
 |p::r,i=>cond (Nat.beq p.1 i) (some p.2) (th r i)
structure cV where
 glob:List (Str×D)
 fns:List (Addr×(Fn×oY))
 meths:List (Addr×List (Str×Addr))
 attrs:List (Addr×List (Str×Unit))
 clss:List (Addr×Addr)
 bnds:List (Addr×List (Str×Addr))
 pb:Nat→Bool
 mb:Nat→Bool
noncomputable def cV.fn(T:cV)(fa:Addr):Option (Fn×oY):=th T.fns fa
noncomputable def cV.meth(T:cV)(C:Addr)(name:Str):Option Addr:=(th T.meths C).bind λ l=>bD l name
noncomputable def cV.attr(T:cV)(C:Addr)(name:Str):Option Unit:=(th T.attrs C).bind λ l=>bD l name
noncomputable def cV.bnd(T:cV)(C:Addr)(name:Str):Option Addr:=(th T.bnds C).bind λ l=>bD l name
noncomputable def cV.cls(T:cV)(C:Addr):Option Addr:=th T.clss C
section
variable(h₁:Heap)(C fa:Addr)(name:Str)
inductive LC:Prop
 |mk (K:Frag) (c:o5 h₁ K C) (hm:findIn K (.ref C) name=some (some (.ref fa))) (ht:typeIn K (.ref fa)=some (.type "function"))
inductive LQ:Prop
 |mk (K:Frag) (c:o5 h₁ K C) (hn:findIn K (.ref C) name=some none) (ht:takerIn K C name=some none)
inductive LD:Prop
 |mk (K:Frag) (c:o5 h₁ K C) (hm:makesIn K C=true) (hi:findIn K (.ref C) "__init__"=some (some (.ref fa))) (ht:typeIn K (.ref fa)=some (.type "function")) (hc:specialIn K (.ref C) "__call__"=some (some (.builtin "type.__call__"))) (o:Obj) (cd:ClassData) (ho:h₁.get? C=some o) (hd:o.data= .cls cd)
inductive OB:Prop
 |mk (K:Frag) (c:o5 h₁ K C) (hm:findIn K (.ref C) name=some (some (.ref fa))) (ht:typeIn K (.ref fa)=some (.type "function")) (hg:specialIn K (.ref fa) "__get__"=some (some (.builtin "function.__get__"))) (hk:takesIn K (.ref fa)=some false) (hn:PySem.W.copiedNames.contains name=false)
end
structure IR(prog:Program)(w:World)(h₁:Heap)(T:cV):Prop where
 glob:∀x d,bD T.glob x=some d→rR prog w h₁ x d
 fns:∀fa f,T.fn fa=some f→HR h₁ fa f.1∧rN f.1.ns f.1.params
 meths:∀C name fa,T.meth C name=some fa→LC h₁ C fa name
 attrs:∀C name u,T.attr C name=some u→LQ h₁ C name
 clss:∀C fI,T.cls C=some fI→LD h₁ C fI
 bnds:∀C name fa,T.bnd C name=some fa→OB h₁ C fa name
abbrev eD(X:Cx)(T:cV):Prop:=IR X.prog X.w X.h₁ T
abbrev ee:=Addr→List D→St→Option (D×St)
noncomputable def j9(X:Cx)(run:ee):Prop:=∀fa ds st d st',run fa ds st=some (d,st')→∀(P':Addr→Prop) (p:Pt) (vs:List Value),(X.withP P').rep p→p.st=st→(X.withP P').denL p vs ds→GC (X.withP P').e p (.ref fa) vs d st'
theorem j9.at(h:j9 X run){fa:Addr}{ds:List D}{st':St}{d:D}{p:Pt}{vs:List Value}(e:run fa ds p.st=some (d,st'))(R:X.rep p)(hv:X.denL p vs ds):GA X.e X.den p (call (.ref fa) vs) d st':=(h fa ds p.st d st' e X.P p vs R rfl hv).ga
theorem j9.atC(h:j9 X run){fa:Addr}{ds:List D}{st':St}{d:D}{p:Pt}{vs:List Value}(e:run fa ds p.st=some (d,st'))(R:X.rep p)(hv:X.denL p vs ds):GC X.e p (.ref fa) vs d st':=h fa ds p.st d st' e X.P p vs R rfl hv
noncomputable def Lg:Value→Option Bi
 | .builtin n=>if n= "len"then some .len else if n= "isinstance"then some .isinstance else if n= "max"then some .max else none
 | .type n=>if n= "str"then some .str else if n= "int"then some .int else if n= "list"then some .list else none
 |_=>none
theorem tS{b:Bi}(h:Lg v=some b):v=b.val:=by
 refine aT (P:=λ b=>v=b.val) ?_ h
 clear h
 induction v using Value.casesOn with
 |builtin n=>exact eu (λ h=>h▸rfl) (eu (λ h=>h▸rfl) (eu (λ h=>h▸rfl) ag))
 |type n=>exact eu (λ h=>h▸rfl) (eu (λ h=>h▸rfl) (eu (λ h=>h▸rfl) ag))
 |_=>exact ag
noncomputable def D.val?:D→Option Value
 | .val v=>some v
 |_=>Option.none
noncomputable def uI:Value→Option Addr
 | .ref a=>some a
 |_=>none
section
variable{X:Cx}{env:Env}{ev:dh}{et:mP}{p:Pt}{loc:Loc}{pos:Pos}{T:cV}{run:ee}{args:List Expr}{k:D→St→aD}{out:aD}{Q:VS}{E:VS}
theorem qC{d:D}(hv:X.den p v d):b6 (λ w=>v=w) d.val?:=by
 induction hv using b8.casesOn with
 |val w=>exact rfl
 |_=>exact ag
theorem zJ(tok:eD X T)(hrun:j9 X run)(he:HE X env ev)(R:X.rep p)(F:ax X p env loc){fa:Addr}{f:Fn×oY}(hf:T.fn fa=some f)(hns:noStar args=true){fv:List Value}{first:List D}(hfirst:X.denL p fv first)(hc:af ((de ev args loc p.st λ ds st=>.node (run fa (first++ds) st) k))=out)(ho:out≠.no)(kQ:∀v q d st,X.e.mv p q→q.st=st→X.den q v d→af (k d st)=out→Q v q.s):wpAny X.m X.A (callWith pos (.ref fa) fv (backTo pos (starEach args env)) []) Q E p.s:=by
 refine cZ (X:=X) R F (λ e q R F=>he e loc q R F) hns hc ho (λ q m=>⟨_,.inl rfl,gN (X:=X) m.rep (tok.fns fa f hf).1⟩) λ vs q ds st m e hvs hk=>?_
 subst e
 obtain⟨r,hr,hk⟩:=kp hk ho
 exact hrun.at hr m.rep ((fY (X:=X.e) m (Cx.e_ok X) hfirst).append hvs) Q E λ v2 q2 m2 e2 hv2=>kQ v2 q2 _ _ (dY m m2) e2 hv2 hk
end
end
section
noncomputable def IC:aY→Option (Addr×List (Str×D))
 | .inst C fs=>some (C,fs)
 |_=>none
noncomputable def iR(st:St):D→Option (Nat×Addr×List (Str×D))
 | .ob i=>((aW st.σ i).bind IC).map λ r=>(i,r)
 |_=>none
structure Ea(st:St)(a:D)(r:Nat×Addr×List (Str×D)):Prop where
 e:a= .ob r.1
 h:aW st.σ r.1=some (.inst r.2.1 r.2.2)
theorem jp{st:St}{a:D}{r:Nat×Addr×List (Str×D)}(h:iR st a=some r):Ea st a r:=by
 refine aT (P:=Ea st a) ?_ h
 clear h
 induction a using D.casesOn with
 |ob i=>exact .map (.bnd λ o ho=>by
  induction o using aY.casesOn with
  |inst C fs=>exact⟨rfl,ho⟩
  |_=>exact ag)
 |_=>exact ag
noncomputable def DR(T:cV)(st:St)(a:D)(attr:Str):Option D:=(iR st a).bind λ r=>(T.attr r.2.1 attr).bind λ _=>(bD r.2.2 attr).bind λ d=>cond (Ad d) (some d) none
noncomputable def sM(T:cV)(run:ee)(ev:dh)(o:Expr)(name:Str)(apos pos:Pos)(args:List Expr):Loc→St→(D→St→aD)→aD:=λ loc st k=>cond (J2 o apos pos args) (ev o loc st λ a st=>
 (iR st a).elim (cS (nO st a name) λ m=>de ev args loc st λ ds st=>.node (ku m st a ds) k) λ r=>
  cond (bD r.2.2 name).isSome .no (cS (T.meth r.2.1 name) λ fa=>cS (T.fn fa) λ _=>de ev args loc st λ ds st=>.node (run fa (a::ds) st) k)) .no
section
variable{X:Cx}{env:Env}{ev:dh}{et:mP}{p:Pt}{loc:Loc}{pos:Pos}{T:cV}{run:ee}
theorem DQ(tok:eD X T)(R:X.rep p){a d:D}{v:Value}{attr:Str}(hv:X.den p v a)(h:DR T p.st a attr=some d){expr:Bool}:GA X X.den p (getAttr v attr expr) d p.st:=
 aT (P:=λ d=>GA X X.den p (getAttr v attr expr) d p.st) (.bnd λ r hr=>.bnd λ u hu=>.bnd λ d hd=>.cond λ hok=>by
  obtain⟨e,hi⟩:=jp hr
  obtain⟨K,ck,hn,_⟩:=tok.attrs _ _ _ hu
  exact vL R ck hn hi (e▸hv) hd hok) h
theorem JW(hs:sysModules<X.h₁.objs.size)(he:HE X env ev)(R:X.rep p)(F:ax X p env loc){v:Value}{a:D}{name:Str}{args:List Expr}(hv:X.den p v a)(hns:noStar args=true){k:D→St→aD}{out:aD}(hc:af (cS (nO p.st a name) λ m=>de ev args loc p.st λ ds st=>.node (ku m st a ds) k)=out)(ho:out≠.no){pl:Sem Bool}{Q:VS}{E:VS}(kQ:∀v q d st,X.e.mv p q→q.st=st→X.den q v d→af (k d st)=out→Q v q.s):wpAny X.m X.A (getMethod v name pl) (λ r s₂=>wpAny X.m X.A (callWith pos r.1 r.2 (backTo pos (starEach args env)) []) Q E s₂) E p.s:=by
 obtain⟨mid,hmid,hc⟩:=bX hc ho
 refine xc (X:=X) R hv hmid ?_
 refine cZ (X:=X) R F (λ e q R F=>he e loc q R F) hns hc ho (λ q' m'=>⟨_,.inr (.inl rfl),j4 mid⟩) λ vs q' ds st' m' e' hvs hk'=>?_
 subst e'
 obtain⟨r,hr,hk'⟩:=kp hk' ho
 exact BO (X:=X.e) (Cx.e_ok X) hs m'.rep (gk m' hv) hvs hr Q E λ v2 q2 m2 e2 hv2=>kQ v2 q2 _ _ (dY m' m2) e2 hv2 hk'
theorem FX(hs:sysModules<X.h₁.objs.size)(tok:eD X T)(hrun:j9 X run)(he:HE X env ev)(R:X.rep p)(F:ax X p env loc){o:Expr}{name:Str}{apos:Pos}{args:List Expr}:SE X.e p (eval (.Call (.Attribute o name apos) args [] pos) env) (sM T run ev o name apos pos args loc p.st):=λ k out hc ho Q E kQ=>by
 obtain⟨hm,hc⟩:=ce hc ho
 refine iO hm ((he o loc p R F).go hc ho λ v q a m0 hv hk pl=>?_)
 have F0:=F.keepE m0 R
 have hns:=(qW hm).2.1
 induction hr:iR q.st a using Option.casesOn with
 |none=>
  rw[hr]at hk
  exact JW hs he m0.rep F0 hv hns hk ho λ v2 q2 d2 st2 m2=>kQ v2 q2 d2 st2 (dY m0 m2)
 |some r=>
  rw[hr]at hk
  obtain⟨hl,hk⟩:=cY hk ho
  obtain⟨fa,hfa,hk⟩:=bX hk ho
  obtain⟨f,hf,hk⟩:=bX hk ho
  obtain⟨K,ck,hmeth,hty⟩:=tok.meths _ _ _ hfa
  obtain⟨e,hi⟩:=jp hr
  exact p4 (X:=X) m0.rep ck hmeth hty hi (e▸hv) (Option.isNone_iff_eq_none.mp (Option.isSome_eq_false_iff.mp hl)) (zJ tok hrun he m0.rep F0 hf hns (.cons hv .nil) hk ho λ v2 q2 d2 st2 m2=>kQ v2 q2 d2 st2 (dY m0 m2))
end
end
section
noncomputable def w6:D→Option (List D)
 | .tup ds=>some ds
 | .lst ds=>some ds
 | .dct es=>some (jL es)
 |_=>none
section
variable{X:Cx}{env:Env}{ev:dh}{p:Pt}{loc:Loc}{pos:Pos}{v:Value}{a:D}{ds:List D}
theorem n4(hh:X.A.handled=none)(R:X.rep p)(hv:X.den p v a)(h:w6 a=some ds):GI X p (pyIter v) [] false ds:=by
 refine aT (P:=GI X p (pyIter v) [] false) ?_ h
 clear h
 induction hv using b8.casesOn with
 |tup ho hc hd hu hi=>exact vy R hh ⟨_,ho,hc,_,hd⟩ hi hu
 |lst ho hc hd hu hi=>exact yU R hh ⟨_,ho,hc,_,hd⟩ hi (.inr hu)
 |dct hm hu hi lo=>exact yV R hh hm hi lo hu
 |_=>exact ag
noncomputable def KI(X:Cx)(p q₁:Pt)(tp:Bool)(ds:List D)(Q:VS):Prop:=∀I new q,X.e.mv p q₁→cu q₁ q→dV q₁ q new→ct X.prog X.w X.A (q.cfg (more X.P new)) I new new tp ds→Q (.ref I) q.s
theorem SI.of_gi{p q₁:Pt}{t:Sem Value}{tp:Bool}(m:X.e.mv p q₁)(g:GI X q₁ t [] tp ds){Q:VS}{E:VS}(kQ:KI X p q₁ tp ds Q):wpAny X.m X.A t Q E q₁.s:=
 g Q E λ I new q gr hn It=>kQ I new q m gr hn (by rw[aH]at It;exact It)
noncomputable def lC(ev:dh)(e:Expr):Loc→St→(List D→St→aD)→aD:=λ loc st k=>ev e loc st λ d st=>cS (w6 d) λ ds=>k ds st
theorem A9(hh:X.A.handled=none)(he:HE X env ev)(R:X.rep p)(F:ax X p env loc){e:Expr}:SI X.e env p e false (lC ev e loc p.st):=λ k out hc ho Q E kQ=>
 (he e loc p R F).go hc ho λ v q d m hv hk=>(bX hk ho).elim λ ds h=>SI.of_gi m (n4 hh m.rep hv h.1) λ I new q' m g hn It=>kQ I new q q' ds q.st m g rfl hn It h.2
end
end
section
noncomputable def iz:Int→Bool
 | .ofNat n=>Nat.blt n 1000001
 | .negSucc n=>Nat.blt n 1000000
theorem iM{i:Int}(h:iz i=true): -1000001<i∧i<1000001:=by
 induction i using Int.casesOn with
 |ofNat n=>
  have h:n<1000001:=(bp ..).mp h
  exact⟨Int.lt_of_lt_of_le (by decide) (Int.natCast_nonneg n),by show(n:Int)<1000001;omega⟩
 |negSucc n=>
  have h:n<1000000:=(bp ..).mp h
  exact⟨by omega,Int.lt_trans (Int.negSucc_lt_zero n) (by decide)⟩
noncomputable def gZ:List D→Option (List D)
 |[b]=>b.int?.bind λ b=>cond (iz b) (some (fE b.toNat 0 1)) none
 |[a,b]=>a.int?.bind λ a=>b.int?.bind λ b=>cond (iz a&&iz b) (some (fE (b-a).toNat a 1)) none
 |[a,b,c]=>a.int?.bind λ a=>b.int?.bind λ b=>c.int?.bind λ c=>cond (iz a&&(iz b&&decide (c= -1))) (some (fE (a-b).toNat a (-1))) none
 |_=>none
theorem wB(a b:Int):Builtin.Range.rangeSize a b 1=(((b-a).toNat:Nat):Int):=by
 rw[rangeSize_one,Int.toNat_eq_max]
 by_cases h:a<b
 ·rw[aZ h];omega
 ·rw[aI h];omega
theorem pS(a b:Int):Builtin.Range.rangeSize a b (-1)=(((a-b).toNat:Nat):Int):=by
 unfold Builtin.Range.rangeSize
 rw[aI (by decide),Int.neg_neg,Int.ediv_one,Int.toNat_eq_max]
 by_cases h:b<a
 ·rw[aZ h];omega
 ·rw[aI h];omega
theorem uy{a b:Int}(ha: -1000001<a∧a<1000001)(hb: -1000001<b∧b<1000001):Builtin.Range.small a b (-1)=true:=by
 unfold Builtin.Range.small
 rw[pS]
 simp only[Builtin.Range.rangeFitsLong,Bool.and_eq_true,Bool.or_eq_true,decide_eq_true_eq,beq_iff_eq,show¬(-1:Int)>0 by decide,if_false]
 omega
theorem sg{a b:Int}(ha: -1000001<a∧a<1000001)(hb: -1000001<b∧b<1000001):Builtin.Range.small a b 1=true:=small_one (by omega) (by omega) (by omega) (by omega)
section
variable{X:Cx}{p:Pt}{vs:List Value}{ds es:List D}
noncomputable def IS(X:Cx)(p:Pt)(vs:List Value)(es:List D):Prop:=∀(Q:VS) (E:VS),(∀q₁,q₁.st=p.st→KI X p q₁ false es Q)→wpAny X.m X.A (call (.type "range") vs) (λ x s₁=>wpAny X.m X.A (pyIter x) Q E s₁) E p.s
theorem lA(hh:X.A.handled=none)(R:X.rep p){a b c:Int}{t u v:Tok}{n tk:Nat}(hs:Builtin.Range.small a b c=true)(hn:Builtin.Range.rangeSize a b c=(n:Int)){Q:VS}{E:VS}(k:∀q₁,q₁.st=p.st→KI X p q₁ false (fE n a c) Q):
  wpAny X.m X.A (pyIter (.ref p.s.heap.objs.size)) Q E {p.s with heap:=p.s.heap.push {cls:= .type "range",data:= .fields #[.int a t,.int b u,.int c v]},toks:=tk}:=
 have M:X.e.mv p ⟨{p.s with heap:=p.s.heap.push {cls:= .type "range",data:= .fields #[.int a t,.int b u,.int c v]},toks:=tk},p.ρ,p.st⟩:=Mv.push R _
 SI.of_gi M (vz M.rep hh (IsRange.new ..) hs hn) (k _ rfl)
theorem AX(hh:X.A.handled=none)(R:X.rep p)(hv:X.denL p vs ds):b6 (IS X p vs) (gZ ds):=by
 induction hv using bH.casesOn with
 |nil=>exact ag
 |cons h1 hr=>induction hr using bH.casesOn with
  |nil=>exact .int (P:=λ v=>IS X p [v]) h1 λ b t=>.cond λ hb Q E k=>call_range_1 (lA hh R (sg (by decide) (iM hb)) (by rw[wB,Int.sub_zero]) k)
  |cons h2 hr=>induction hr using bH.casesOn with
   |nil=>exact .int (P:=λ v=>IS X p [v,_]) h1 λ a t=>.int (P:=λ v=>IS X p [_,v]) h2 λ b t'=>.cond λ h Q E k=>
     have h:=(Bool.and_eq_true _ _).mp h;call_range_2 (lA hh R (sg (iM h.1) (iM h.2)) (wB _ _) k)
   |cons h3 hr=>induction hr using bH.casesOn with
    |nil=>
     refine .int (P:=λ v=>IS X p [v,_,_]) h1 λ a t=>.int (P:=λ v=>IS X p [_,v,_]) h2 λ b t'=>.int (P:=λ v=>IS X p [_,_,v]) h3 λ c t2=>.cond λ h=>?_
     obtain⟨ha,h⟩:=(Bool.and_eq_true _ _).mp h
     obtain⟨hb,hc⟩:=(Bool.and_eq_true _ _).mp h
     obtain rfl:=bP hc
     have ha:=iM ha
     have hb:=iM hb
     exact λ Q E k=>call_range_3 (by decide) (lA hh R (uy ha hb) (pS _ _) k) (Or.inl (PyProof.noPylong_small (by omega)))
    |cons=>exact ag
end
end
section
noncomputable def gP(n:String)(d:D):Bool:=d.ty?.elim false λ m=>decide (m=n)
theorem gO{n:String}{d:D}{X:Cx}{p:Pt}{v:Value}(hv:X.den p v d)(h:gP n d=true):v= .type n:=by
 revert h
 induction hv using b8.casesOn with
 |val w=>induction w using Value.casesOn with
  |type m=>exact λ h=>ae Value.type (bP h)
  |_=>exact ftK
 |_=>exact ftK
noncomputable def AZ(ev:dh)(x:Str)(px:Pos)(args:List Expr):Loc→St→(List D→St→aD)→aD:=λ loc st k=>cond (noStar args)
 (ev (.Name x px) loc st λ fd st=>cond (gP "range" fd) (de ev args loc st λ ds st=>BC (gZ ds) st k) .no) .no
noncomputable def Im:D→Option (List D)
 | .lst ds=>some ds
 |_=>none
noncomputable def Bf(ds:List D):Option (List D):=(one ds).bind λ d=>(AN d).map (eF 0)
noncomputable def HU(ds:List D):Option (List D):=two (λ a b=>(Im a).bind λ ds=>(Im b).map λ es=>o8 ds es) ds
noncomputable def Ic(ev:dh)(x:Str)(px:Pos)(args:List Expr):Loc→St→(List D→St→aD)→aD:=λ loc st k=>cond (noStar args)
 (ev (.Name x px) loc st λ fd st=>cond (gP "enumerate" fd) (de ev args loc st λ ds st=>cS (Bf ds) λ es=>k es st)
  (cond (gP "zip" fd) (de ev args loc st λ ds st=>cS (HU ds) λ es=>k es st) .no)) .no
section
variable{X:Cx}{env:Env}{ev:dh}{p:Pt}{loc:Loc}{pos:Pos}{vs:List Value}{ds es:List D}
theorem lp(he:HE X env ev)(R:X.rep p)(F:ax X p env loc){v:Value}{d:D}{n:String}(hv:X.den p v d)(hn:gP n d=true){args:List Expr}(hns:noStar args=true){k:List D→St→aD}{out:aD}(hc:af (de ev args loc p.st k)=out)(ho:out≠.no){Q:VS}{E:VS}(h:∀vs q ds,X.e.mv p q→X.denL q vs ds→af (k ds q.st)=out→wpAny X.m X.A (call (.type n) vs) Q E q.s):wpAny X.m X.A (callWith pos v [] (backTo pos (starEach args env)) []) Q E p.s:=by
 obtain rfl:=gO hv hn
 exact cZ (X:=X) R F (λ e q R F=>he e loc q R F) hns hc ho (λ q m=>⟨_,.inr (.inl rfl),gq⟩) λ vs q' ds st' m' e' hvs hk'=>h vs q' ds m' hvs (e'▸hk')
theorem AW(hh:X.A.handled=none)(he:HE X env ev)(R:X.rep p)(F:ax X p env loc){x:Str}{px:Pos}{args:List Expr}:SI X.e env p (.Call (.Name x px) args [] pos) false (AZ ev x px args loc p.st):=λ k out hc ho Q E kQ=>
 have hc:=ce hc ho
 wpAny_Call_Name_kw ((he _ loc p R F).go hc.2 ho λ v q d m hv hk=>have hk:=ce hk ho
  lp he m.rep (F.keepE m R) hv hk.1 hc.1 hk.2 ho λ vs q' ds m' hvs hk'=>(BA hk' ho).elim λ es h=>
   aT (P:=IS X q' vs) (AX hh m'.rep hvs) h.1 Q E λ q₁ e I new q2 m2 g hn It=>kQ I new q₁ q2 es q'.st (dY m (dY m' m2)) g e hn It h.2)
theorem EW(hh:X.A.handled=none)(R:X.rep p){v:Value}{d:D}(hv:X.den p v d):b6 (λ ds=>GI X p (call (.type "enumerate") [v]) [] true (eF 0 ds)) (AN d):=by
 induction hv using b8.casesOn with
 |lst ho hc hd hu hi=>exact qi R hh ⟨_,ho,hc,_,hd⟩ hi (.inr hu)
 |tup ho hc hd hu hi=>exact vB R hh ⟨_,ho,hc,_,hd⟩ hi hu
 |_=>exact ag
theorem Fl(hh:X.A.handled=none)(R:X.rep p)(hv:X.denL p vs ds):b6 (GI X p (call (.type "enumerate") vs) [] true) (Bf ds):=
 gA (P:=λ vs=>GI X p (call (.type "enumerate") vs) [] true) hv λ v d h=>.map (EW hh R h)
theorem I3(hh:X.A.handled=none)(R:X.rep p)(hv:X.denL p vs ds):b6 (GI X p (call (.type "zip") vs) [] true) (HU ds):=
 lq (P:=λ vs=>GI X p (call (.type "zip") vs) [] true) hv λ v u a b ha hb=>by
  induction ha using b8.casesOn with
  |lst ho hc hd hu hi=>induction hb using b8.casesOn with
   |lst ho' hc' hd' hu' hi'=>exact Cg R hh ⟨_,ho,hc,_,hd⟩ ⟨_,ho',hc',_,hd'⟩ hi hi' hu hu'
   |_=>exact ag
  |_=>exact ag
theorem pT{c:dW}{I:Addr}{own wo:List Addr}(It:ct X.prog X.w X.A c I own wo true ds){s:Shared}(hs:s.heap=c.h){Q:VS}{E:VS}(hQ:Q (.ref I) s):wpAny X.m X.A (pyIter (.ref I)) Q E s:=by
 obtain⟨Wk,hst,hn,hfp,hwr,hd⟩:j8 .. :=It
 exact Wk.self _ _ _ _ (hs▸hst) hQ
theorem SI.of_pair{q₁:Pt}{t:Sem Value}(m:X.e.mv p q₁)(g:GI X q₁ t [] true ds){Q:VS}{E:VS}(kQ:KI X p q₁ true ds Q):wpAny X.m X.A t (λ x s₁=>wpAny X.m X.A (pyIter x) Q E s₁) E q₁.s:=
 SI.of_gi m g λ I new q m gr hn It=>pT It rfl (kQ I new q m gr hn It)
theorem Fk(hh:X.A.handled=none)(he:HE X env ev)(R:X.rep p)(F:ax X p env loc){x:Str}{px:Pos}{args:List Expr}:SI X.e env p (.Call (.Name x px) args [] pos) true (Ic ev x px args loc p.st):=λ k out hc ho Q E kQ=>by
 obtain⟨hns,hc⟩:=ce hc ho
 refine wpAny_Call_Name_kw ((he _ loc p R F).go hc ho λ v q d m hv hk=>?_)
 have G {n:String} {f:List D→Option (List D)} (hn:gP n d=true) (hk:af (de ev args loc q.st λ ds st=>cS (f ds) λ es=>k es st)=out) (g:∀{q' vs ds},X.rep q'→X.denL q' vs ds→b6 (GI X q' (call (.type n) vs) [] true) (f ds)):
   wpAny X.m X.A (callWith pos v [] (backTo pos (starEach args env)) []) (λ x s₁=>wpAny X.m X.A (pyIter x) Q E s₁) E q.s:=
  lp he m.rep (F.keepE m R) hv hn hns hk ho λ vs q' ds m' hvs hk'=>(bX hk' ho).elim λ es h=>
   SI.of_pair (dY m m') (aT (P:=GI X q' (call (.type n) vs) [] true) (g m'.rep hvs) h.1) λ I new q2 m2 g hn It=>kQ I new q' q2 es q'.st m2 g rfl hn It h.2
 induction h1:gP "enumerate" d using Bool.casesOn with
 |true=>rw[h1]at hk;exact G h1 hk (Fl hh)
 |false=>
  rw[h1]at hk
  obtain⟨h2,hk⟩:=ce hk ho
  exact G h2 hk (I3 hh)
end
end
section
abbrev zU:=Stmt→Loc→St→(Loc→St→aD)→aD
abbrev rU:=List Stmt→Loc→St→(Loc→St→aD)→aD
noncomputable def Qj(X:Cx)(env:Env)(es:zU):Prop:=∀s loc p,X.rep p→ax X p env loc→SS X env p (exec s env) (es s loc p.st)
noncomputable def HB(X:Cx)(env:Env)(eb:rU):Prop:=∀b loc p,X.rep p→ax X p env loc→SS X env p (execs b env) (eb b loc p.st)
noncomputable def br(es:zU):rU
 |[],loc,st,k=>k loc st
 |s::r,loc,st,k=>es s loc st λ loc st=>br es r loc st k
section
variable{X:Cx}{env:Env}{ev:dh}{et:mP}{es:zU}{eb:rU}{p:Pt}{loc:Loc}{pos:Pos}
theorem SS.via{p q:Pt}{t:Sem Flow}{c:(Loc→St→aD)→aD}(h:SS X env q t c)(m:X.mv p q){k:Loc→St→aD}{out:aD}(hc:af (c k)=out)(ho:out≠.no){Q:Flow→Shared→Prop}{E:VS}(kN:∀q loc st,X.mv p q→q.st=st→ax X q env loc→af (k loc st)=out→Q .next q.s)(kR:∀v q d st,X.mv p q→q.st=st→X.den q v d→out= .val d st→Q (.ret v) q.s):wpAny X.m X.A t Q E q.s:=
 h k out hc ho Q E (λ q' loc st m'=>kN q' loc st (jw m m')) λ v q' d st m'=>kR v q' d st (jw m m')
theorem gU(hs:Qj X env es):HB X env (br es):=λ b=>by
 induction b with
 |nil=>exact λ loc p R F k out hc ho Q E kN kR=>wpAny_execs_nil (kN p loc p.st (Mv.refl R) rfl F hc)
 |cons s r ih=>exact λ loc p R F k out hc ho Q E kN kR=>
   wpAny_execs_cons (hs s loc p R F _ out hc ho _ E (λ q loc' st m e F' hk=>(ih loc' q m.rep F').via m (e▸hk) ho kN kR) kR)
noncomputable def ifS(et:mP)(eb:rU)(t:Expr)(b o:List Stmt):Loc→St→(Loc→St→aD)→aD:=λ loc st k=>et t loc st λ x st=>cond x (eb b loc st k) (eb o loc st k)
theorem No(ht:HT X env et)(hb:HB X env eb)(R:X.rep p)(F:ax X p env loc){t:Expr}{b o:List Stmt}:SS X env p (exec (.If t b o pos) env) (ifS et eb t b o loc p.st):=λ k out hc ho Q E kN kR=>by
 rw[exec_If]
 refine aa (aX (aa ((ht t loc p R F).go hc ho λ x q m hk=>?_)))
 induction x using Bool.casesOn with
 |true=>exact(hb b loc q m.rep (F.keepE m R)).via (eO m) hk ho kN kR
 |false=>exact(hb o loc q m.rep (F.keepE m R)).via (eO m) hk ho kN kR
theorem Jv(he:HE X env ev)(R:X.rep p)(F:ax X p env loc){e:Expr}:SS X env p (exec (.Return (some e) pos) env) (λ _=>ev e loc p.st λ d st=>.val d st):=λ k out hc ho Q E kN kR=>by
 rw[exec_Return_some]
 exact aa (aX (aa (he e loc p R F _ out hc ho _ E λ v q d st m e hv hk=>ak (kR v q d st (eO m) e hv hk.symm))))
theorem E6(R:X.rep p):SS X env p (exec (.Return none pos) env) (λ _=>.val .none p.st):=λ k out hc ho Q E kN kR=>by
 rw[exec_Return_none]
 exact aa (aX (ak (kR .none p .none p.st (Mv.refl R) rfl .none hc.symm)))
noncomputable def ie:Expr→Bool
 | .ListComp .. =>true
 | .SetComp .. =>true
 | .DictComp .. =>true
 |_=>false
theorem d6{e:Expr}{t:Option Expr}{n:Nat}(h:ie e=false):swapsWith e t n env=pure false:=by
 revert h
 induction e using Expr.casesOn<;>first|exact λ _=>rfl|exact tfK
noncomputable def IH(ev:dh)(e:Expr):Loc→St→(Loc→St→aD)→aD:=λ loc st k=>cond (ie e) .no (ev e loc st λ _ st=>k loc st)
theorem GV(he:HE X env ev)(R:X.rep p)(F:ax X p env loc){e:Expr}:SS X env p (exec (.Expr e pos) env) (IH ev e loc p.st):=λ k out hc ho Q E kN kR=>
 have hc:=cY hc ho
 have hi:interactive env=false:=by unfold interactive;rw[F.kind];rfl
 wpAny_Expr_any (he e loc p R F _ out hc.2 ho _ E λ v q d st m e1 hv hk=>kN q loc st (eO m) e1 (F.keepE m R) hk) hi (d6 hc.1)
end
end
section
noncomputable def nA(et:mP)(eb:rU)(t:Expr)(b:List Stmt):Nat→Loc→St→(Loc→St→aD)→aD
 |0,_,_,_=>.no
 |n+1,loc,st,k=>et t loc st λ x st=>cond x (eb b loc st λ loc st=>nA et eb t b n loc st k) (k loc st)
section
variable{X:Cx}{env:Env}{ev:dh}{et:mP}{es:zU}{eb:rU}{p:Pt}{loc:Loc}{pos:Pos}
inductive P4(X:Cx)(env:Env)(p:Pt)(c:Nat→Loc→St→aD)(out:aD)(n:Nat)(s:Shared):Prop
 |mk (q:Pt) (loc:Loc) (e:s=q.s) (m:X.mv p q) (F:ax X q env loc) (hc:af (c n loc q.st)=out)
theorem z5{n:Nat}(ht:HT X env et)(hb:HB X env eb)(R:X.rep p)(F:ax X p env loc){t:Expr}{b:List Stmt}:SS X env p (exec (.While t b [] pos) env) (nA et eb t b n loc p.st):=λ k out hc ho Q E kN kR=>by
 refine wpAny_While (codeAny_whileLoop (I:=P4 X env p (λ n loc st=>nA et eb t b n loc st k) out) (λ n s hI=>?_) n ⟨p,loc,rfl,Mv.refl R,F,hc⟩)
 obtain⟨q,loc',rfl,m,F',hk⟩:=hI
 induction n using Nat.casesAuxOn with
 |zero=>exact absurd hk.symm ho
 |succ n=>
  refine(ht t loc' q m.rep F').go hk ho λ x q2 m2 hk2=>?_
  have F2:=F'.keepE m2 m.rep
  have M:=jw m (eO m2)
  induction x using Bool.casesOn with
  |false=>exact wpAny_execs_nil (kN q2 loc' q2.st M rfl F2 hk2)
  |true=>exact hb b loc' q2 m2.rep F2 _ out hk2 ho _ _ (λ q3 loc3 st3 m3 e3 F3 hk3=>⟨n,Nat.lt_succ_self n,q3,loc3,rfl,jw M m3,F3,e3.symm▸hk3⟩) λ v q3 d st3 m3 e3 hv hout=>kR v q3 d st3 (jw M m3) e3 hv hout
end
end
section
section
variable{X:Cx}{env:Env}
theorem Dj{ns:cr}{p q₁ q₀ q:Pt}{all:List Addr}{C D':Addr}{cenv:Env}{loc':Loc}{acc:List D}{loc loc2:Loc}(ok:X.ok)(hh:X.A.handled=none)(hns:env.scope.names=ns)(hWf:kc true env X.W)(F1:ax X q₁ env loc)(c:LP X p q₁ q₀ q all C D' cenv loc' acc){x:Str}{px:Pos}(ha:gC true ns 4 (.Name x px) (.lst acc) loc=some loc2){Q:VS}{E:VS}(kQ:∀q',X.mv p q'→q'.st=q.st→ax X q' env loc2→Q .none q'.s):
  wpAny X.m X.A (assign (.Name x px) env (.ref D')) (λ _ s''=>∃m,s''.heap.Ns C m∧∀h',Heap.SameBut C s''.heap h'→Q .none {s'' with heap:=h'}) E q.s:=by
 have R:X.rep q₁:=c.m.rep
 have hCz:=(c.hn C c.hC).1
 have old {a} (h:X.P a) (e:a=C):False:=aN.mpr hCz (e▸(R.priv a h).1)
 have mC:C∈[C]:=List.mem_singleton_self C
 have sub a (h:more X.P [C] a):more X.P all a:=h.imp id λ (h:a∈[C])=>(aC.mp h).symm▸c.hC
 have MC:Mv X.prog X.w X.h₁ (more X.P [C]) (λ _=>False) q₁ q:=Mv.outOf (Mv.trans (c.g.mvN (W':=λ a=>a∈all) R c.hn) c.M λ _ h _=>h) (.inl R.top) sub λ a h=>.inr (c.hn a h).1
 have RC:(X.plus [C]).rep q:=MC.rep
 have F3:ax (X.plus [C]) q env loc:=F1.mv (λ _ _ h=>(h.mono (tO (P':=more X.P [C]) (s':=q₁.s) (λ _ _ h=>h) λ a h=>h.imp id λ (h:a∈[C])=>(aC.mp h).symm▸hCz)).mono (MC.le λ _ h=>h.elim))
  (λ _ ⟨_,es,ep,ho,r⟩=>(MC.up ho (λ h=>R.footNot h F1.pL) (λ h=>h)).elim λ _ ho=>⟨_,es,ep,ho,r⟩)
  (λ n c _ hc ⟨_,ho,r⟩=>(MC.up ho (λ h=>R.footNot h (F1.pC n c hc)) (λ h=>h)).elim λ _ ho=>⟨_,ho,r⟩) (.inl F1.pL) λ n c h=>.inl (F1.pC n c h)
 have dl:(X.plus [C]).den q (.ref D') (.lst acc):=by
  obtain⟨_,xs,n,hl,hi⟩:=c.A
  exact .lst (hn:=rfl) hl rfl rfl (λ h=>h.elim (λ hf=>c.M.rep.footNot hf (.inr c.hD)) λ h=>h.elim (λ hp=>aN.mpr (c.hn D' c.hD).1 (R.priv D' hp).1) λ h=>c.cd (aC.mp h).symm) (bH.mono hi (dM sub))
 refine fZ (X:=X.plus [C]) (λ a h=>.inl (ok a h)) hh hns hWf 4 (.Name x px) (.lst acc) loc loc2 q (.ref D') ha RC F3 dl _ _ λ _ q4 m4 e4 F4=>?_
 obtain⟨m,hm,_⟩:=c.F.ns
 obtain⟨oC,esC,epC,hoC,rC⟩:=hm
 rw[c.hc]at hoC
 refine⟨m,⟨oC,esC,epC,m4.sameX hoC (λ h=>RC.footNot h (.inr mC)) (λ h=>old (ok C h) rfl) (λ e=>aN.mpr (e▸hCz) R.size),rC⟩,λ h' hs=>?_⟩
 have M5:Mv X.prog X.w X.h₁ (more X.P [C]) (λ a=>a=C) q4 ⟨{q4.s with heap:=h'},q4.ρ,q4.st⟩:=Mv.private m4.rep (.inr mC) rfl hs rfl rfl rfl
 have F5:ax (X.plus [C]) ⟨{q4.s with heap:=h'},q4.ρ,q4.st⟩ env loc2:=F4.keep M5 m4.rep (λ a h=>.inr (h.symm▸mC)) (old F1.pL) λ n c hm=>old (F1.pC n c hm)
 have MT:Mv X.prog X.w X.h₁ (more X.P [C]) (λ a=>X.W a∨a=C) q₁ ⟨{q4.s with heap:=h'},q4.ρ,q4.st⟩:=
  Mv.trans (Mv.trans (MC.weaken λ _ h=>h.elim) m4 λ a h _=>.inl h) M5 λ a h _=>.inr h
 exact kQ ⟨{q4.s with heap:=h'},q4.ρ,q4.st⟩ (jw (eO c.m) (Mv.outOf MT R.top (λ _ h=>.inl h) λ a h=>h.imp id λ (h:a=C)=>h.symm▸hCz)) e4 (F5.unplus F1.pL F1.pC)
end
end
section
section
variable{X:Cx}{env:Env}{ns:cr}{p:Pt}{loc:Loc}{scope:Scope}
noncomputable def Dq(ns nm:cr)(sc:cr)(target:Expr)(ifs:List Expr)(ci:(List D→St→aD)→aD)(t:Expr→Loc→St→(Bool→St→aD)→aD)(c:Loc→St→(D→St→aD)→aD)(x:Expr)(loc:Loc)(k:Loc→St→aD):aD:=
 v4 nm sc target ifs ci t c loc λ d st=>cS (gC true ns 4 x d loc) λ loc'=>k loc' st
theorem Dp(ok:X.ok)(hWf:kc true env X.W)(hh:X.A.handled=none)(hns:env.scope.names=ns)(R:X.rep p)(F:ax X p env loc){elt target iter:Expr}{ifs:List Expr}{pos spos:Pos}{tp:Bool}(hk:scope.kind= .function)(co:eU ns scope.names)(hset:jM iter=false)(htp:tp=true→dT target=true){ci:(List D→St→aD)→aD}(hi:SI X.e env p iter tp ci){t:Expr→Loc→St→(Bool→St→aD)→aD}{c:Loc→St→(D→St→aD)→aD}(hp:oX X (cB ns scope.names) ifs elt t c){x:Str}{px:Pos}(hsw:swapsWith (.ListComp elt [⟨target,iter,ifs,0⟩] scope pos) (some (.Name x px)) spos.line env=pure true):
  SS X env p (exec (.Assign [.Name x px] (.ListComp elt [⟨target,iter,ifs,0⟩] scope pos) spos) env) (λ k=>Dq ns (cB ns scope.names) scope.names target ifs ci t c (.Name x px) loc k):=by
 intro k out hc ho Q E kN kR
 rw[exec_Assign_arm]
 refine aa (aX ?_)
 rw[show swapsWithSole [Expr.Name x px] (.ListComp elt [⟨target,iter,ifs,0⟩] scope pos) spos.line env=pure true from hsw]
 refine aa (ak (aa ?_))
 show wpAny _ _ (do let _←comprehension (.ListComp elt [⟨target,iter,ifs,0⟩] scope pos) scope env (firstIterPos [⟨target,iter,ifs,0⟩] pos) (newList []) (firstAsync [⟨target,iter,ifs,0⟩]) (firstIter [⟨target,iter,ifs,0⟩] env) (some λ v=>assignAll v [assign (.Name x px) env])) _ _ _
 refine aa (bW (Q:=λ _ s=>Q .next s) ?_ (λ _ _ h=>ak (ak h)) λ _ _ h=>h)
 exact lU hh hns R F hk co hset htp hi (λ _ _ _=>kY ..) (yes:=λ D' cenv t=>xG elt (.ref D') cenv t)
  (λ all C D' cenv z=>jT z.ok z.wD z.dl z.dc (λ e' loc q R F=>hp.tests _ _ loc e' q z.nm R (F.reW X.W)) λ loc q R F=>hp.elt _ _ loc q z.nm R (F.reW X.W))
  (k:=λ acc st=>cS (gC true ns 4 (.Name x px) (.lst acc) loc) λ loc'=>k loc' st) hc ho λ q₁ q2 q3 all C D' cenv loc' acc F1 c hk=>(bX hk ho).elim λ loc2 h=>
   Dj ok hh hns hWf F1 c h.1 (Q:=λ _ s=>Q .next s) λ q' m' e' F'=>kN q' loc2 _ m' e' F' h.2
end
end
section
variable{α:Type}
set_option backward.match.sparseCases true in
noncomputable def Gv:Expr→Bool
 | .Starred .. =>true
 |_=>false
set_option backward.match.sparseCases true in
noncomputable def mR(ns:cr)(ts:List Expr):List Str:=ts.filterMap λ
 | .Name id pos=>if cA ns id==some .local&&pos.line==(ts.head?.map (·.pos.line)).getD 0 then some id else none
 |_=>none
noncomputable def H3(ns:cr)(ts vs:List Expr):Option (Option (List Str)):=
 bif (!(ts.length==2||ts.length==3)||vs.length !=ts.length)then some none
 else bif vs.any Gv then some none
 else bif (mR ns ts).length !=ts.length||(mR ns ts).eraseDups.length !=(mR ns ts).length then some none
 else bif vs.all (foldedForSure 8)then some none
 else bif vs.all (constantsAlone 8)then none
 else some (some (mR ns ts))
theorem gF{b:Bool}{a o:Option α}{x y:Sem α}(h1:b6 (λ r=>x=pure r) a)(h2:b6 (λ r=>y=pure r) o):b6 (λ r=>(if b=true then x else y)=pure r) (cond b a o):=by
 induction b using Bool.casesOn with
 |true=>exact h1
 |false=>exact h2
theorem Mn{a:α}:b6 (λ r=>(pure a:Sem α)=pure r) (some a):=rfl
theorem sw1{P:α→Prop}:b6 P none:=ag
theorem ED{env:Env}{ns:cr}(hk:env.scope.kind= .function)(hns:env.scope.names=ns){ts vs:List Expr}{k k':Nat}{tp vp:Pos}{r:Option (List Str)}(h:H3 ns ts vs=some r):swappedStores [.Tuple ts k tp] (.Tuple vs k' vp) env=pure r:=by
 refine aT (P:=λ r=>swappedStores [.Tuple ts k tp] (.Tuple vs k' vp) env=pure r) ?_ h
 have hb:env.blockKind= .function:=by unfold Env.blockKind;rw[hk];rfl
 have hkk:env.kindOf=cA ns:=funext λ x=>cW hns x
 unfold swappedStores
 dsimp only
 rw[hb,hkk,show(ScopeKind.function !=ScopeKind.function)=false from rfl,Bool.or_false]
 exact gF Mn (gF Mn (gF Mn (gF Mn (gF sw1 Mn))))
end
section
noncomputable def Jm(j:Nat)(st:St)(i d:D):aY→Option St
 | .list ds=>i.int?.bind λ z=>(jK z).bind λ n=>cond (Nat.blt n (aw ds)&&Nat.blt n 1000000) (some (st.put j (.list (mF ds n d)))) none
 | .dict es=>(dN i).bind λ k=>cond (small es) (some (st.put j (.dict (d4 es k d)))) none
 |_=>none
noncomputable def D.ob?:D→Option Nat
 | .ob i=>some i
 |_=>Option.none
noncomputable def l5(st:St)(a i d:D):Option St:=a.ob?.bind λ j=>(aW st.σ j).bind (Jm j st i d)
noncomputable def H6(T:cV)(st:St)(a:D)(attr:Str)(d:D):Option St:=(iR st a).bind λ r=>(T.attr r.2.1 attr).bind λ _=>cond (small r.2.2) (some (st.put r.1 (.inst r.2.1 (iB r.2.2 attr d)))) none
noncomputable def Jg(T:cV)(ns:cr)(ev:dh)(t:Expr)(d:D):Loc→St→(Loc→St→aD)→aD:=λ loc st k=>match t with
 | .Attribute o attr _=>ev o loc st λ a st=>wV (H6 T st a attr d) λ st'=>k loc st'
 | .Subscript o i _=>ev o loc st λ a st=>ev i loc st λ y st=>wV (l5 st a y d) λ st'=>k loc st'
 |t=>cS (gC true ns 4 t d loc) λ loc'=>k loc' st
section
variable{X:Cx}{env:Env}{ev:dh}{et:mP}{es:zU}{eb:rU}{p:Pt}{loc:Loc}{pos:Pos}{T:cV}{ns:cr}
theorem Jz{v:Value}{a:D}:b6 (λ j=>a= .ob j) a.ob?:=by
 induction a using D.casesOn with
 |ob i=>exact rfl
 |_=>exact ag
theorem AC(R:X.rep p){a i d:D}{u v x:Value}{st:St}(hu:X.den p u a)(hv:X.den p v i)(hx:X.den p x d)(h:l5 p.st a i d=some st):GA X (λ _ _ _=>True) p (setItem u v x) () st:=by
 refine aT (P:=GA X (λ _ _ _=>True) p (setItem u v x) ()) (.bnd λ j hj=>.bnd λ o ho=>?_) h
 obtain rfl:=aT (P:=λ j=>a= .ob j) (Jz (v:=u)) hj
 induction o using aY.casesOn with
 |list ds=>exact .int (P:=λ v=>GA X (λ _ _ _=>True) p (setItem u v x) ()) hv λ z t=>.bnd λ n hn=>.cond λ h=>
  have h:=(Bool.and_eq_true _ _).mp h;mE R hu ho hn (bf ds▸bp.mp h.1) (dH (bp.mp h.2) (by decide)) hx
 |dict es=>exact .bnd λ k hk=>.cond λ hs=>uA R hv hk hu ho hx (eh hs)
 |_=>exact ag
theorem AM(tok:eD X T)(R:X.rep p){a d:D}{u x:Value}{attr:Str}{st:St}(hu:X.den p u a)(hx:X.den p x d)(h:H6 T p.st a attr d=some st):GA X (λ _ _ _=>True) p (setAttr u attr x) () st:=
 aT (P:=GA X (λ _ _ _=>True) p (setAttr u attr x) ()) (.bnd λ r hr=>.bnd λ y hy=>.cond λ hsm=>by
  obtain⟨e,hi⟩:=jp hr
  obtain⟨K,ck,_,ht⟩:=tok.attrs _ _ _ hy
  exact uB R ck ht hi (e▸hu) hx hsm) h
theorem Au(ok:X.ok)(hh:X.A.handled=none)(hns:env.scope.names=ns)(hW:kc true env X.W)(tok:eD X T)(he:HE X env ev)(R:X.rep p)(F:ax X p env loc){t:Expr}{d:D}{v:Value}(hv:X.den p v d){k:Loc→St→aD}{out:aD}(hc:af (Jg T ns ev t d loc p.st k)=out)(ho:out≠.no){Q:Unit→Shared→Prop}{E:VS}(kQ:∀q loc st,X.mv p q→q.st=st→ax X q env loc→af (k loc st)=out→Q () q.s):wpAny X.m X.A (assign t env v) Q E p.s:=by
 have G (hc:af (cS (gC true ns 4 t d loc) λ loc'=>k loc' p.st)=out):wpAny X.m X.A (assign t env v) Q E p.s:=
  (bX hc ho).elim λ loc' h=>fZ ok hh hns hW 4 t d loc loc' p v h.1 R F hv Q E λ _ q m e F'=>kQ q loc' p.st m e F' h.2
 induction t using Expr.casesOn with
 |Attribute o attr tp=>
  rw[arm_assign_Attribute]
  exact aa (aV ((he o loc p R F).go hc ho λ u q a m hu hk=>(sE hk ho).elim λ st' h=>
   aa (aX (aa (aV (AM (X:=X.e) tok m.rep hu (gk m hv) h.1 _ E λ _ q2 m2 e2 _=>jV (kQ q2 loc st' (eO (dY m m2)) e2 (F.keepE (dY m m2) R) h.2)))))))
 |Subscript o i tp=>
  rw[arm_assign_Subscript]
  exact aa (aV ((he o loc p R F).go hc ho λ u q a m hu hk=>aa (aV ((he i loc q m.rep (F.keepE m R)).go hk ho λ y q1 b m1 hy hk1=>(sE hk1 ho).elim λ st' h=>
   aa (aX (aa (aV (AC (X:=X.e) m1.rep (gk m1 hu) hy (gk m1 (gk m hv)) h.1 _ E λ _ q2 m2 e2 _=>jV (kQ q2 loc st' (eO (dY m (dY m1 m2))) e2 (F.keepE (dY m (dY m1 m2)) R) h.2)))))))))
 |_=>exact G hc
noncomputable def AD(ns:cr):List Str→List D→Loc→Option Loc
 |[],ds,loc=>cond ds.isEmpty (some loc) none
 |x::xs,ds,loc=>ds.head?.bind λ d=>cond (uS true ns x) (AD ns xs ds.tail (iB loc x d)) none
theorem sd(ok:X.ok)(hns:env.scope.names=ns)(hW:kc true env X.W)(xs:List Str):∀(ds:List D) (loc loc':Loc) (p:Pt) (vs:List Value),AD ns xs ds loc=some loc'→X.rep p→ax X p env loc→X.denL p vs ds→GA X (λ q _ _=>ax X q env loc') p (assignInOrder (xs.map λ n=>bindName env n) vs) () p.st:=by
 induction xs with
 |nil=>
  refine λ ds loc loc' p vs h R F hv=>aT (P:=λ loc'=>GA X (λ q _ _=>ax X q env loc') p (assignInOrder [] vs) () p.st) (.cond λ he=>?_) h
  obtain rfl:=List.isEmpty_iff.mp he
  cases hv
  exact λ Q E k=>ak (k () p (Mv.refl R) rfl F)
 |cons x xs ih=>
  intro ds loc loc' p vs h R F hv
  induction hv using bH.casesOn with
  |nil=>exact nsK h
  |cons h1 hr=>
   refine aT (P:=λ loc'=>GA X (λ q _ _=>ax X q env loc') p (assignInOrder (_::_) (_::_)) () p.st) (o:=cond (uS true ns x) _ none) (.cond λ hb=>.all λ loc' h Q E k=>?_) h
   refine aa (aV (wpAny_bindName (iI F R ok ?_ h1 _ _ λ _ q m e1 F'=>ih _ _ loc' q _ h m.rep F' (fY m ok hr) Q E λ _ r m' e2 F''=>k () r (jw m m') (e2.trans e1) F'')))
   exact uR hns hW hb
end
end
section
noncomputable def Ml(ns:cr)(t value:Expr):Option (Option (List Str)):=match t with
 | .Tuple ts _ _=>(match value with
  | .Tuple vs _ _=>H3 ns ts vs
  |_=>some none)
 | .List _ _=>(match value with
  | .Tuple _ _ _=>none
  |_=>some none)
 |_=>some none
theorem ww{env:Env}{ns:cr}(hk:env.scope.kind= .function)(hns:env.scope.names=ns){t value:Expr}{r:Option (List Str)}(h:Ml ns t value=some r):swappedStores [t] value env=pure r:=by
 refine aT (P:=λ r=>swappedStores [t] value env=pure r) ?_ h
 clear h
 induction t using Expr.casesOn with
 |Tuple ts=>induction value using Expr.casesOn with
  |Tuple vs=>exact .all λ r h=>ED hk hns h
  |_=>exact rfl
 |List ts=>induction value using Expr.casesOn<;>first|exact ag|exact rfl
 |_=>exact rfl
noncomputable def MB(ns:cr)(xs:List Str)(d:D)(loc:Loc):Option Loc:=d.tup?.bind λ ds=>cond (Nat.beq (aw ds) (aw xs)) (AD ns xs.reverse ds.reverse loc) none
noncomputable def MA(T:cV)(ns:cr)(ev:dh)(t value:Expr)(names:Option (List Str)):Loc→St→(Loc→St→aD)→aD:=λ loc st k=>ev value loc st λ d st=>
 names.elim (Jg T ns ev t d loc st k) λ xs=>cS (MB ns xs d loc) λ loc'=>k loc' st
noncomputable def Lk(T:cV)(ns:cr)(ev:dh)(t value:Expr):Loc→St→(Loc→St→aD)→aD:=λ loc st k=>cS (Ml ns t value) λ r=>MA T ns ev t value r loc st k
section
variable{X:Cx}{env:Env}{ev:dh}{et:mP}{es:zU}{eb:rU}{p:Pt}{loc:Loc}{pos:Pos}{T:cV}{ns:cr}
theorem E5(ok:X.ok)(hh:X.A.handled=none)(hns:env.scope.names=ns)(hW:kc true env X.W)(R:X.rep p)(F:ax X p env loc){v:Value}{d:D}(hv:X.den p v d){xs:List Str}{Q:Flow→Shared→Prop}{E:VS}:
  b6 (λ loc'=>(∀q,X.mv p q→q.st=p.st→ax X q env loc'→Q .next q.s)→wpAny X.m X.A (do rule "assign.swapped-stores";let items←unpackItems v xs.length none;assignInOrder (xs.reverse.map λ n=>bindName env n) items.reverse;pure .next) Q E p.s) (MB ns xs d loc):=by
 induction hv using b8.casesOn with
 |tup ho hcl hd hu hi=>
  refine .cond λ hlen=>.all λ loc' hl kN=>aa (wpAny_rule (aa ?_))
  have e1:=(bH.size hi).trans ((bf _).symm.trans ((Nat.eq_of_beq_eq_true hlen).trans (bf _)))
  rw[←e1]
  refine cj (unpackItems_tuple hh ⟨_,ho,hcl,_,hd⟩ λ h2 hext hsz=>?_)
  have g:=qn (X:=X) R hext hsz
  have M:X.mv p ⟨{p.s with heap:=h2},p.ρ,p.st⟩:=g.mv0 R
  exact aa (sd ok hns hW _ _ loc loc' _ _ hl M.rep (F.keepE (g.mv0 R) R) (fY M ok hi).reverse _ E λ _ q3 m3 e3 F3=>ak (kN q3 (jw M m3) e3 F3))
 |_=>exact ag
theorem Jt(ok:X.ok)(hh:X.A.handled=none)(hns:env.scope.names=ns)(hW:kc true env X.W)(tok:eD X T)(he:HE X env ev)(R:X.rep p)(F:ax X p env loc){t value:Expr}{names:Option (List Str)}(hcomp:ie value=false)(hsw:swappedStores [t] value env=pure names)(hst:eR t=false):SS X env p (exec (.Assign [t] value pos) env) (MA T ns ev t value names loc p.st):=by
 intro k out hc ho Q E kN kR
 rw[exec_Assign_arm]
 refine aa (aX ?_)
 rw[show swapsWithSole [t] value pos.line env=pure false from d6 hcomp]
 refine aa (ak (aa ((he value loc p R F).go hc ho λ v q d m hv hk=>?_)))
 rw[hsw]
 refine aa (ak ?_)
 have F0:=F.keepE m R
 induction names using Option.casesOn with
 |none=>
  show wpAny _ _ (do assignAll v ((assignEach [t] env).map (·.2));pure .next) Q E q.s
  rw[cU hst]
  refine aa ?_
  show wpAny _ _ (assign t env v) _ _ _
  exact Au ok hh hns hW tok he m.rep F0 hv hk ho λ q2 loc2 st2 m2 e2 F2 hk2=>ak (kN q2 loc2 st2 (jw (eO m) m2) e2 F2 hk2)
 |some xs=>
  obtain⟨loc',hl,hk⟩:=bX hk ho
  exact aT (P:=λ loc'=>(∀q',X.mv q q'→q'.st=q.st→ax X q' env loc'→Q .next q'.s)→_) (E5 ok hh hns hW m.rep F0 hv) hl λ q3 m3 e3 F3=>kN q3 loc' _ (jw (eO m) m3) e3 F3 hk
theorem DT(ok:X.ok)(hh:X.A.handled=none)(hns:env.scope.names=ns)(hW:kc true env X.W)(tok:eD X T)(he:HE X env ev)(R:X.rep p)(F:ax X p env loc){t value:Expr}(hcomp:ie value=false)(hst:eR t=false):SS X env p (exec (.Assign [t] value pos) env) (Lk T ns ev t value loc p.st):=λ k out hc ho Q E kN kR=>
 (bX hc ho).elim λ r h=>Jt ok hh hns hW tok he R F hcomp (ww F.kind hns h.1) hst k out h.2 ho Q E kN kR
end
end
section
section
variable{X:Cx}{env:Env}{ev:dh}{et:mP}{es:zU}{eb:rU}{p:Pt}{loc:Loc}{pos:Pos}{T:cV}{ns:cr}{x:Str}{d:D}
noncomputable def rf:Option NameKind→Bool
 |some .globalImplicit=>true
 |_=>false
theorem y1{o:Option NameKind}(h:rf o=true):o=some .globalImplicit:=by
 revert h
 induction o using Option.casesOn with
 |none=>exact ftK
 |some k=>induction k using NameKind.casesOn<;>first|exact λ _=>rfl|exact ftK
noncomputable def BK(T:cV)(ns:cr)(x:Str)(loc:Loc):Option D:=cond (rf (cA ns x)) (bD T.glob x) (bD loc x)
noncomputable def Ij(T:cV)(ns:cr)(x:Str):Loc→St→(D→St→aD)→aD:=λ loc st k=>cond (c7 x "__debug__") .no (cond (c7 x "__classdict__") .no (cS (BK T ns x loc) λ d=>k d st))
theorem FU(hns:env.scope.names=ns)(tok:eD X T)(R:X.rep p)(F:ax X p env loc):SE X.e p (eval (.Name x pos) env) (Ij T ns x loc p.st):=by
 intro k out hc ho Q E kQ
 obtain⟨h1,hc⟩:=cY hc ho
 obtain⟨h2,hc⟩:=cY hc ho
 obtain⟨d,hd,hc⟩:=bX hc ho
 have G (g:GA X.e X.den p (eval (.Name x pos) env) d p.st):wpAny X.m X.A (eval (.Name x pos) env) Q E p.s:=g Q E λ v q m e hv=>kQ v q d p.st m e hv hc
 unfold BK at hd
 induction hk:rf (cA ns x)using Bool.casesOn with
 |true=>rw[hk]at hd;exact G (GJ F.kind F.glob F.blt R ((cW hns x).trans (y1 hk)) h1 (tok.glob x d hd))
 |false=>rw[hk]at hd;exact G (FW F R hd h1 h2)
noncomputable def Di(c:Const):St→(D→St→aD)→aD:=λ st k=>match c with
 | .none=>k .none st
 | .bool b=>k (.bool b) st
 | .int i=>k (.int i) st
 | .str x=>k (.str x) st
 |_=>.no
theorem Dh(R:X.rep p){c:Const}{n:Nat}:SE X.e p (eval (.Constant c n pos) env) (Di c p.st):=by
 intro k out hc ho Q E kQ
 induction c using Const.casesOn with
 |none=>exact pD R Q E λ v q m e hv=>kQ v q _ p.st m e hv hc
 |bool b=>exact pE R Q E λ v q m e hv=>kQ v q _ p.st m e hv hc
 |int i=>exact rD R Q E λ v q m e hv=>kQ v q _ p.st m e hv hc
 |str y=>exact rB R Q E λ v q m e hv=>kQ v q _ p.st m e hv hc
 |_=>exact absurd hc.symm ho
end
end
section
section
variable{X:Cx}{env:Env}{ev:dh}{et:mP}{es:zU}{eb:rU}{p:Pt}{loc:Loc}{pos:Pos}{T:cV}{ns:cr}{x:Str}{d:D}
theorem Gb(F:ax X p env loc)(R:X.rep p)(hx:bD loc x=some d)(hc:c7 x "__classdict__"=false):GA X.e X.den p (loadName env x) d p.st:=by
 intro Q E k
 rcases F.vars x d hx with h|h|h
 ·obtain⟨m,hn,hm⟩:=F.ns
  obtain⟨v,hv,hd⟩:=hm x d hx h
  exact wpAny_loadName_local F.kind h hn hv (k v p (Mv.refl R) rfl hd)
 ·obtain⟨c,v,hc,hcell,hv⟩:=F.cell x (.inl h)
  obtain⟨u,rfl,hd⟩:=hv d hx
  exact wpAny_loadName_cell F.kind h hc hcell (k u p (Mv.refl R) rfl hd)
 ·obtain⟨c,v,hc',hcell,hv⟩:=F.cell x (.inr h)
  obtain⟨u,rfl,hd⟩:=hv d hx
  exact wpAny_loadName_free F.kind h hc' hcell (k u p (Mv.refl R) rfl hd) (nh hc)
noncomputable def N4(ns:cr)(ev:dh)(x:Str)(op:Operator)(e:Expr):Loc→St→(Loc→St→aD)→aD:=λ loc st k=>
 cond (c7 x "__classdict__") .no (cS (bD loc x) λ a=>cond (Lv op) (ev e loc st λ d st=>cS a.int? λ i=>cS d.int? λ j=>cond (uS true ns x) (k (iB loc x (.int (i+j))) st) .no) .no)
inductive LH(v:Value)(i:Int):Prop
 |mk (t:Tok) (e:v= .int i t)
theorem w7{v:Value}(hv:X.den p v d):b6 (LH v) d.int?:=by
 induction hv using b8.casesOn with
 |int i t=>exact⟨t,rfl⟩
 |_=>exact ag
theorem HJ{op:Operator}(h:Lv op=true):op= .Add:=by
 revert h
 induction op using Operator.casesOn<;>first|exact λ _=>rfl|exact ftK
theorem Lj(ok:X.ok)(hns:env.scope.names=ns)(hW:kc true env X.W)(he:HE X env ev)(R:X.rep p)(F:ax X p env loc){op:Operator}{px:Pos}{e:Expr}:SS X env p (exec (.AugAssign (.Name x px) op e pos) env) (N4 ns ev x op e loc p.st):=by
 intro k out hc ho Q E kN kR
 obtain⟨hcd,hc⟩:=cY hc ho
 obtain⟨a,hx,hc⟩:=bX hc ho
 obtain⟨hop,hc⟩:=ce hc ho
 obtain rfl:=HJ hop
 refine wpAny_AugAssign_Name (Gb F R hx hcd _ E λ v q m e1 hv=>?_)
 rw[←e1]at hc
 refine(he e loc q m.rep (F.keepE m R)).go hc ho λ v2 q2 d m2 hv2 hk=>?_
 obtain⟨i,hi,hk⟩:=bX hk ho
 obtain⟨j,hj,hk⟩:=bX hk ho
 obtain⟨hb,hk⟩:=ce hk ho
 obtain⟨t,rfl⟩:=aT (P:=LH v) (w7 hv) hi
 obtain⟨t',rfl⟩:=aT (P:=LH v2) (w7 hv2) hj
 have mt:X.e.mv q2 ⟨{q2.s with toks:=q2.s.toks+1},q2.ρ,q2.st⟩:=Mv.tick m2.rep
 have M:=dY m (dY m2 mt)
 exact PySem.P.iadd_int (iI (p:=⟨{q2.s with toks:=q2.s.toks+1},q2.ρ,q2.st⟩) (F.keepE M R) mt.rep ok (uR hns hW hb) (.int _ _) (λ _=>Q .next) E λ _ q3 m3 e3 F3=>kN q3 _ q2.st (jw (eO M) m3) e3 F3 hk)
end
end
section
variable{b:Bool}
noncomputable def uQ(x:Str):Bool:=c7 x "enumerate"||c7 x "zip"
noncomputable def Lb(args:List Expr):Expr→Bool
 | .Name x _=>uQ x
 | .Attribute _ name _=>args.isEmpty&&c7 name "items"
 |_=>false
noncomputable def lL:Expr→Bool
 | .Call f args kw _=>kw.isEmpty&&Lb args f
 |_=>false
noncomputable def NS(ev:dh)(e:Expr)(args:List Expr):Expr→Loc→St→(List D→St→aD)→aD
 | .Name x px=>cond (uQ x) (Ic ev x px args) (cond (c7 x "range") (AZ ev x px args) (lC ev e))
 | .Attribute _ name _=>cond (args.isEmpty&&c7 name "items") (λ _ _ _=>.no) (lC ev e)
 |_=>lC ev e
noncomputable def mn(ev:dh)(e:Expr):Loc→St→(List D→St→aD)→aD:=match e with
 | .Call f args kw _=>cond kw.isEmpty (NS ev e args f) (lC ev e)
 |_=>lC ev e
section
variable{X:Cx}{env:Env}{ev:dh}{et:mP}{es:zU}{eb:rU}{p:Pt}{loc:Loc}{pos:Pos}{T:cV}{ns:cr}{x:Str}{d:D}
theorem H5{e:Expr}{c1 c2:Loc→St→(List D→St→aD)→aD}(h1:SI X.e env p e true (c1 loc p.st))(h2:SI X.e env p e false (c2 loc p.st)):SI X.e env p e b (cond b c1 c2 loc p.st):=by
 induction b using Bool.casesOn with
 |true=>exact h1
 |false=>exact h2
theorem Mx{e:Expr}{tp:Bool}{c1 c2:Loc→St→(List D→St→aD)→aD}(h1:SI X.e env p e tp (c1 loc p.st))(h2:SI X.e env p e tp (c2 loc p.st)):SI X.e env p e tp (cond b c1 c2 loc p.st):=by
 induction b using Bool.casesOn with
 |true=>exact h1
 |false=>exact h2
theorem re(hh:X.A.handled=none)(he:HE X env ev)(R:X.rep p)(F:ax X p env loc){e:Expr}:SI X.e env p e (lL e) (mn ev e loc p.st):=by
 have P {e}:=A9 hh he R F (e:=e)
 induction e using Expr.casesOn with
 |Call f args kw pos=>
  induction kw using List.casesOn with
  |cons=>exact P
  |nil=>induction f using Expr.casesOn with
   |Name x px=>exact H5 (Fk hh he R F) (Mx (AW hh he R F) P)
   |Attribute o name apos=>exact H5 (λ k out hc ho=>absurd hc.symm ho) P
   |_=>exact P
 |_=>exact P
noncomputable def yX(target iter:Expr):Bool:=!jM iter&&(!lL iter||dT target)
theorem kK{target iter:Expr}(h:yX target iter=true):jM iter=false∧(lL iter=true→dT target=true):=
 have h:=(Bool.and_eq_true _ _).mp h
 ⟨mG h.1,λ h2=>((Bool.or_eq_true _ _).mp h.2).elim (λ h=>tfK (h2.symm.trans (mG h))) id⟩
noncomputable def Ny(ns:cr)(ev:dh)(eb:rU)(target iter:Expr)(body:List Stmt):Loc→St→(Loc→St→aD)→aD:=λ loc st k=>cond (yX target iter) (mn ev iter loc st λ ds st=>eB (gC true ns 4 target) (eb body) ds loc st k) .no
theorem KJ(ok:X.ok)(hh:X.A.handled=none)(hns:env.scope.names=ns)(hW:kc true env X.W)(he:HE X env ev)(hb:∀P',(∀a,X.W a→P' a)→HB (X.withP P') env eb)(R:X.rep p)(F:ax X p env loc){target iter:Expr}{body:List Stmt}:
  SS X env p (exec (.For target iter body [] pos) env) (Ny ns ev eb target iter body loc p.st):=λ k out hc ho Q E kN kR=>
 have hc:=ce hc ho
 have h:=kK hc.1
 zg ok hh hns hW R F h.1 h.2 (re hh he R F) (λ new loc q R F=>hb (more X.P new) (λ a h=>.inl (ok a h)) body loc q R F) k out hc.2 ho Q E kN kR
end
end
section
variable{σ:List (Nat×aY)}{j:Nat}
noncomputable def St.drop(st:St)(j:Nat):St:=⟨rA st.σ j,st.next⟩
noncomputable def St.back(st:St)(j:Nat)(o:aY):St:=⟨(j,o)::st.σ,st.next⟩
noncomputable def Pt.drop(p:Pt)(j:Nat):Pt:=⟨p.s,p.ρ,p.st.drop j⟩
noncomputable def Pt.back(p:Pt)(j:Nat)(o:aY):Pt:=⟨p.s,p.ρ,p.st.back j o⟩
theorem cX{i:Nat}{o:aY}(h:aW (rA σ j) i=some o):j≠i∧aW σ i=some o:=by
 rw[CP]at h
 by_cases e:j=i
 ·exact nsK ((aZ e).symm.trans h)
 ·exact⟨e,(aI e).symm.trans h⟩
theorem qq{ρ:Nat→Addr×Addr}{a:Addr}(h:fT ρ (rA σ j) a):fT ρ σ a:=by
 obtain⟨i,o,hi,he⟩:=h
 exact⟨i,o,(cX hi).2,he⟩
theorem i8{o₀:aY}{C:Nat→aY→Prop}(h0:C j o₀)(h1:∀i o,aW σ i=some o→C i o)(i:Nat)(o:aY)(h:aW ((j,o₀)::σ) i=some o):C i o:=
 (iS h).elim (λ e=>e.1▸e.2▸h0) λ e=>h1 i o e.2
section
variable{prog:Program}{w:World}{h₁:Heap}{P P' W:Addr→Prop}{p q:Pt}{j:Nat}{o₀:aY}
theorem kV(hj:aW p.st.σ j=some o₀)(hP:∀a,P' a→P a∨a=(p.ρ j).1):(p.cfg P).Le ((p.drop j).cfg P'):=
 ⟨λ a o ho hu=>⟨ho,λ h=>hu (h.elim (λ h=>.inl (qq h)) λ h=>(hP a h).elim .inr λ h=>.inl ⟨j,o₀,hj,.inl h⟩)⟩,λ _ _=>rfl,aq _⟩
theorem dJ.dropP(R:dJ prog w h₁ P p)(hj:aW p.st.σ j=some o₀)(ht:P' h₁.objs.size)(hP:∀a,P' a→P a∨a=(p.ρ j).1):dJ prog w h₁ P' (p.drop j) where
 keep:=R.keep
 size:=R.size
 top:=ht
 lt':=λ i o h=>R.lt' i o (cX h).2
 obj:=λ i o h=>(R.obj i o (cX h).2).mono (kV hj hP) (λ _ h=>h) λ _ h=>h
 new:=λ i o h=>R.new i o (cX h).2
 own:=λ i o h=>
  have h:=cX h
  have a:=R.own i o h.2
  have b:=R.sep j i _ _ hj h.2 h.1
  ⟨λ g=>(hP _ g).elim a.1 λ g=>b.1 g.symm,λ g=>(hP _ g).elim a.2 λ g=>b.2.1 g.symm⟩
 sep:=λ i k o o' h h'=>R.sep i k o o' (cX h).2 (cX h').2
 priv:=λ a h=>(hP a h).elim (R.priv a) λ h=>h▸⟨(R.lt hj).1,bJ (R.new j _ hj).1⟩
theorem dJ.drop_mv(R:dJ prog w h₁ P p)(hj:aW p.st.σ j=some o₀):Mv prog w h₁ P W p (p.drop j):=
 ⟨R.dropP hj R.top λ _ h=>.inl h,rfl,rfl,rfl,aq _,λ _ _ h _ _=>.inl h,λ _ _=>rfl,aq _,λ i o h=>.inl ⟨R.lt' i o (cX h).2,o,(cX h).2⟩⟩
theorem xv{l:Addr}(he:q.ρ j=(l,l)):(q.cfg (more P [l])).Le ((q.back j o₀).cfg P):=
 have me:l∈[l]:=List.mem_singleton_self l
 ⟨λ a o ho hu=>⟨ho,λ h=>hu (h.elim (λ ⟨i,o',hi,hx⟩=>(iS hi).elim (λ e=>by
   have hx:a=(q.ρ i).1∨a=(q.ρ i).2:=hx
   rw[e.1,he]at hx
   exact .inr (.inr (hx.elim (λ h=>h▸me) λ h=>h▸me))) λ e=>.inl ⟨i,o',e.2,hx⟩) λ h=>.inr (.inl h))⟩,λ _ _=>rfl,aq _⟩
theorem yB(R:dJ prog w h₁ P p){l:Addr}(hl:p.ρ j=(l,l)){ds:List D}(hj:aW p.st.σ j=some (.list ds))(m:Mv prog w h₁ (more P [l]) W (p.drop j) q)(hW:∀a,W a→P a):
  Mv prog w h₁ P W p (q.back j (.list ds)):=by
 have hlt:=R.lt' j _ hj
 have he:q.ρ j=(l,l):=(m.ids j hlt).trans hl
 have hle:=xv (P:=P) (o₀:= .list ds) he
 have me:l∈[l]:=List.mem_singleton_self l
 have hPl:¬P l:=λ h=>(R.own j _ hj).1 (hl.symm▸h)
 have hfl:¬fT (p.drop j).ρ (p.drop j).st.σ l:=λ ⟨i,o,hi,hx⟩=>by
  have b:=R.sep j i _ _ hj (cX hi).2 (cX hi).1
  rw[hl]at b
  exact hx.elim b.1 b.2.1
 have nl {a} (h:¬more P [l] a):¬P a∧a≠l:=⟨λ g=>h (.inl g),λ g=>h (.inr (g.symm▸me))⟩
 have own i o (h:aW q.st.σ i=some o):(¬P (q.ρ i).1∧(q.ρ i).1≠l)∧(¬P (q.ρ i).2∧(q.ρ i).2≠l):=⟨nl (m.rep.own i o h).1,nl (m.rep.own i o h).2⟩
 have obj:fO prog w ((q.back j (.list ds)).cfg P) (q.ρ j) (.list ds):=by
  obtain⟨xs,n,e,ho,hi⟩:HP .. :=R.obj j _ hj
  rw[he]
  rw[hl]at ho
  exact HP.mk xs n rfl (m.sameX ho hfl (λ h=>hPl (hW _ h)) (bM (hl▸(R.new j _ hj).1)))
   (((hi.mono (kV (P':=more P [l]) hj λ a h=>h.imp id λ (h:a∈[l])=>hl.symm▸aC.mp h)).mono (m.le λ a h=>.inl (hW a h))).mono hle)
 exact⟨⟨m.rep.keep,m.rep.size,R.top,i8 (ao hlt m.next) m.rep.lt',i8 obj λ i o hi=>(m.rep.obj i o hi).mono hle (λ _ h=>h) λ _ h=>h,
  i8 (he.symm▸hl▸R.new j _ hj) m.rep.new,i8 (he.symm▸⟨hPl,hPl⟩) λ i o hi=>⟨(own i o hi).1.1,(own i o hi).2.1⟩,
  λ i k o o' hi hk hik=>by
   rcases iS hi with⟨rfl,rfl⟩|⟨_,hi'⟩<;>rcases iS hk with⟨rfl,rfl⟩|⟨_,hk'⟩
   ·exact absurd rfl hik
   ·have:=own k _ hk'
    rw[show(q.back _ (.list ds)).ρ _=_ from he]
    exact⟨this.1.2.symm,this.2.2.symm,this.2.2.symm⟩
   ·have:=own i _ hi'
    rw[show(q.back _ (.list ds)).ρ _=_ from he]
    exact⟨this.1.2,this.1.2,this.2.2⟩
   ·exact m.rep.sep i k _ _ hi' hk' hik,λ a h=>m.rep.priv a (.inl h)⟩,m.gens,m.drawn,m.os,m.size,λ a o ho hf hw=>m.same a o ho (λ h=>hf (qq h)) hw,m.ids,m.next,
  i8 (.inl ⟨hlt,_,hj⟩) λ i o hi=>(m.dom i o hi).imp (λ ⟨h1,o',h2⟩=>⟨h1,o',(cX h2).2⟩) id⟩
end
end
section
noncomputable def Bl(st:St)(as:List D):Option (Nat×List D):=(one as).bind λ a=>mf st a
noncomputable def Io(ns:cr)(ev:dh)(eb:rU)(x:Str)(px:Pos)(arg target:Expr)(body:List Stmt):Loc→St→(Loc→St→aD)→aD:=λ loc st k=>
 cond (dT target&&noStar [arg]) (ev (.Name x px) loc st λ fd st=>cond (gP "enumerate" fd) (de ev [arg] loc st λ as st=>cS (Bl st as) λ r=>
  eB (gC true ns 4 target) (eb body) (eF 0 r.2) loc (st.drop r.1) λ loc' st'=>k loc' (st'.back r.1 (.list r.2))) .no) .no
section
variable{X:Cx}{env:Env}{ev:dh}{et:mP}{es:zU}{eb:rU}{p:Pt}{loc:Loc}{pos:Pos}{T:cV}{ns:cr}{x:Str}{d:D}
inductive D5(p:Pt)(vs:List Value)(r:Nat×List D):Prop
 |mk (e:vs=[.ref (p.ρ r.1).1]) (hlt:r.1<p.st.next) (h:aW p.st.σ r.1=some (.list r.2))
theorem yf{vs:List Value}{ds:List D}(hv:X.denL p vs ds):b6 (D5 p vs) (Bl p.st ds):=
 gA (P:=λ vs=>D5 p vs) hv λ v d h=>.all λ r hr=>by
  obtain⟨rfl,hg⟩:=aT (P:=qw p.st d) kC hr
  induction h using denI_ob with
  |ob hlt=>exact⟨rfl,hlt,hg⟩
theorem F9(ok:X.ok)(hh:X.A.handled=none)(hns:env.scope.names=ns)(hW:kc true env X.W)(hb:∀P',(∀a,X.W a→P' a)→HB (X.withP P') env eb)(R:X.rep p)(F:ax X p env loc){target:Expr}{body:List Stmt}(htup:dT target=true){j:Nat}{ds:List D}(hlt:j<p.st.next)(hj:aW p.st.σ j=some (.list ds)){k:Loc→St→aD}{out:aD}(hc:af (eB (gC true ns 4 target) (eb body) (eF 0 ds) loc (p.st.drop j) λ loc' st'=>k loc' (st'.back j (.list ds)))=out)(ho:out≠.no){Rs:Result→Shared→Prop}{E:VS}(kN:∀q loc st,X.mv p q→q.st=st→ax X q env loc→af (k loc st)=out→Rs (.ok .next) q.s)(kR:∀v q d st,X.mv p q→q.st=st→X.den q v d→out= .val d st→Rs (.ok (.ret v)) q.s):
  wpAny X.m X.A (call (.type "enumerate") [.ref (p.ρ j).1]) (λ x s₁=>wpAny X.m X.A (pyIter x) (λ it s₂=>codeAny X.m X.A (.forLoop target it body [] env) Rs s₂) E s₁) E p.s:=by
 obtain⟨xs,n,el,hol,hil⟩:HP .. :=R.obj j _ hj
 have hPl:=(R.own j _ hj).1
 have hnl:=(R.new j _ hj).1
 generalize hld:(p.ρ j).1=l at*
 have hl:p.ρ j=(l,l):=Prod.ext hld el
 have me:l∈[l]:=List.mem_singleton_self l
 have hP' a (h:more X.P [l] a):X.P a∨a=(p.ρ j).1:=h.imp id λ (h:a∈[l])=>(aC.mp h).trans hld.symm
 have Rd:(X.plus [l]).rep (p.drop j):=dJ.dropP R hj (.inl R.top) hP'
 have led:=kV (P:=X.P) (P':=more X.P [l]) hj hP'
 have ok':(X.plus [l]).ok:=λ a h=>.inl (ok a h)
 have Fd:ax (X.plus [l]) (p.drop j) env loc:=F.mv (λ _ _ h=>h.mono led) (λ _ h=>h) (λ _ _ _ _ h=>h) (.inl F.pL) λ n c h=>.inl (F.pC n c h)
 refine qi (X:=X.plus [l]) (p:=p.drop j) (lk:=[l]) (xs:=xs) (ds:=ds) Rd hh ⟨_,hol,rfl,_,rfl⟩ (hil.mono led) (.inl me) _ E λ I new q2 g hn It=>pT (X:=X.plus [l]) It rfl ?_
 have via {q3} (M3:Mv X.prog X.w X.h₁ (more (more X.P [l]) new) (more X.W new) q2 q3):Mv X.prog X.w X.h₁ (more X.P [l]) X.W (p.drop j) q3:=g.via Rd hn (λ a h=>h) M3
 have old {a} (h:X.P a) (h':a∈new):False:=aN.mpr (hn a h').1 (R.priv a h).1
 refine jO (X:=(X.plus [l]).plus new) (bodyC:=eb body) (asgf:=gC true ns 4 target) (out:=out) (gp ok') (its:=new) (lk:=[l]) (g.rep Rd hn)
  ⟨List.forall_mem_append.mpr ⟨λ b hb=>⟨.inr hb,λ hw=>old (ok b hw) hb,λ e=>aN.mpr (e▸(hn b hb).1) R.size⟩,List.forall_mem_singleton.mpr ⟨.inl (.inr me),λ hw=>hPl (ok _ hw),bM hnl⟩⟩,old F.pL,λ n c hm=>old (F.pC n c hm)⟩ (λ _=>htup)
  (λ d loc loc' q v ha Rq Fq hv=>fZ (gp ok') hh hns hW 4 target d loc loc' q v ha Rq Fq hv) (λ loc q R F=>hb (more (more X.P [l]) new) (λ a h=>.inl (.inl (ok a h))) body loc q R F) (Fd.plus g hn) It (by rw[show q2.st=p.st.drop j from g.st];exact hc) ho (λ q3 loc3 st3 M3 e3 F3 hk3=>?_) λ v q3 d3 st3 M3 e3 hv3 hout=>
   kR v q3 d3 st3 (jw (R.drop_mv hj) ((via M3).outOf R.top (λ a h=>.inl h) λ a h=>.inl h)) e3 (b8.mono (hY (X:=X.plus [l]) hv3) (dM λ _ h=>.inl h)) hout
 subst e3
 exact kN (q3.back j (.list ds)) loc3 _ (yB R hl hj (via M3) ok) rfl ((F3.unplus (X:=X.plus [l]) (.inl F.pL) λ n c h=>.inl (F.pC n c h)).mv (λ _ _ h=>h.mono (xv (((via M3).ids j hlt).trans hl))) (λ _ h=>h) (λ _ _ _ _ h=>h) F.pL F.pC) hk3
theorem Ga(ok:X.ok)(hh:X.A.handled=none)(hns:env.scope.names=ns)(hW:kc true env X.W)(he:HE X env ev)(hb:∀P',(∀a,X.W a→P' a)→HB (X.withP P') env eb)(R:X.rep p)(F:ax X p env loc){px cpos:Pos}{arg target:Expr}{body:List Stmt}:
  SS X env p (exec (.For target (.Call (.Name x px) [arg] [] cpos) body [] pos) env) (Io ns ev eb x px arg target body loc p.st):=λ k out hc ho Q E kN kR=>by
 obtain⟨h,hc⟩:=ce hc ho
 obtain⟨htup,hnst⟩:=(Bool.and_eq_true _ _).mp h
 refine wpAny_For (wpAny_Call_Name_kw ((he _ loc p R F).go hc ho λ v q d m hv hk=>?_)) (fw rfl env)
 obtain⟨hty,hk⟩:=ce hk ho
 refine lp he m.rep (F.keepE m R) hv hty hnst hk ho λ vs q' ds m' hvs hk'=>?_
 obtain⟨r,hr,hk'⟩:=bX hk' ho
 obtain⟨rfl,hlt,hj⟩:=aT (P:=D5 q' vs) (yf hvs) hr
 have M:=eO (dY m m')
 exact F9 ok hh hns hW hb m'.rep (F.keepE (dY m m') R) htup hlt hj hk' ho (λ q loc st m2=>kN q loc st (jw M m2)) λ v q d st m2=>kR v q d st (jw M m2)
end
end
section
variable{d it:Addr}{es:Array DictEntry}{ep:Nat}{Q:Option Value→Shared→Prop}{prog:Program}{w:World}{A:Around}
inductive t4(h:Heap)(d:Addr)(es:Array DictEntry)(ep:Nat):Prop
 |mk (o:Obj) (ho:h.get? d=some o) (hd:o.data= .dict es ep)
theorem t4.at{h h':Heap}(x:t4 h d es ep)(e:∀o,h.get? d=some o→h'.get? d=some o):t4 h' d es ep:=x.casesOn λ o ho r=>⟨o,e _ ho,r⟩
section
variable{prog:Program}{w:World}{A:Around}{E:VS}{s:Shared}
theorem vA{v:Addr}{Q:VS}(hv:s.heap.IsItemsView v d)(hm:t4 s.heap d es ep)(hQ:Q (.ref s.heap.objs.size) {s with heap:=s.heap.push {cls:= .type "dict_itemiterator",data:= .fields #[.none,.bool false,.ref d,.int 0 0,.int es.size 0,.int ep 0,.none,.none]}}):
  wpAny (model prog w) A (pyIter (.ref v)) Q E s:=by
 obtain⟨ov,hov,hcv,hdv⟩:=id hv
 obtain⟨o,ho,hdat⟩:=hm
 refine wpAny_pyIter_slot hv.typeIs PySem.F.slot_dict_items_iter (wpAny_call_entry PySem.F.slot_dict_items_iter hv.typeIs PySem.F.entry_dict_items_iter ?_ (PySem.F.args_dict_items_iter_1 _))
 unfold Builtin.«dict_items.__iter__»
 refine aa (ak (aa ?_))
 unfold Builtin.Dict_items.dictOf
 refine aa (wpAny_field hov hdv (x:= .ref d) rfl (ak (aa ?_)))
 unfold Builtin.Dict_items.newIterator
 refine aa (wpAny_dictEntries ho hdat (aa (wpAny_dictEpoch ho hdat ?_)))
 have hown:Builtin.Dict_items.ownsTuple "dict_itemiterator"=true:=by decide
 dsimp only
 rw[aZ hown]
 refine wpAny_newObj_type (ak ⟨_,rfl,"dict_itemiterator",_,⟨_,Heap.get?_push_size _ rfl,rfl⟩,PySem.F.slot_dict_itemiterator_next.lookup,?_⟩)
  (by simp only[sizeOk,Builtin.Dict_items.ownedTupleFields,List.size_toArray,List.length_append,List.length_cons,List.length_nil,sizeLine_eq];omega)
 exact hQ
theorem u9{i:Nat}{e:DictEntry}{ok ov:Value}(hit:IsItemIter s.heap it d i es.size ep ok ov)(hm:t4 s.heap d es ep)(hx:es[i]?=some e)(hQ:∀h',IsItemIterOut h' it d (i+1) es.size ep e.key e.val s.heap.objs.size→h'.get? s.heap.objs.size=some {cls:= .type "tuple",data:= .seq #[e.key,e.val]}→h'.objs.size=s.heap.objs.size+1→
   (∀b o,b≠it→s.heap.get? b=some o→h'.get? b=some o)→Q (some (.ref s.heap.objs.size)) {s with heap:=h'}):
  wpAny (model prog w) A (pyNext (.ref it)) Q E s:=by
 obtain⟨hp,g,dr,tk,os⟩:=s
 obtain⟨od,hod,hdd⟩:=hm
 have hT:Shared.TypeIs ⟨hp,g,dr,tk,os⟩ (.ref it) "dict_itemiterator":=⟨_,hit,rfl⟩
 have hlt:i<es.size:=(Array.getElem?_eq_some_iff.mp hx).1
 have hown:Builtin.Dict_items.ownsTuple "dict_itemiterator"=true:=by decide
 unfold pyNext
 refine aa (wpAny_attempt (wpAny_callSpecial?_slot (name:=Str.ofString "__next__") hT PySem.F.slot_dict_itemiterator_next
  (wpAny_call_entry PySem.F.slot_dict_itemiterator_next hT PySem.F.entry_dict_itemiterator_next ?_ (PySem.F.args_dict_itemiterator_next_1 _))))
 refine aa (ak (aa (aa ?_)))
 first|refine aa (wpAny_typeNameOfWhole_itemiter hT (ak ?_))|refine aa (wpAny_typeNameOf_itemiter hT (ak ?_))
 refine aa (wpAny_fieldsOf hit rfl ?_)
 dsimp only
 rw[aZ hown]
 show wpAny _ _ (if(Value.ref d==Value.none)=true then _ else _) _ _ _
 rw[aI (show¬((Value.ref d==Value.none)=true)from Bool.false_ne_true)]
 refine aa (ak (aa (wpAny_dictEntries hod hdd ?_)))
 rw[aI (by simp)]
 refine aa (ak (aa (wpAny_dictEpoch hod hdd ?_)))
 rw[aI (by simp)]
 refine ak ?_
 dsimp only
 rw[aI (show¬((i:Int)<0)from Int.not_lt.mpr (Int.natCast_nonneg i)),Int.toNat_natCast,hx]
 dsimp only
 refine aa ?_
 first|refine aa (wpAny_typeNameOfWhole_itemiter hT (ak ?_))|refine aa (wpAny_typeNameOf_itemiter hT (ak ?_))
 refine aa (wpAny_isOneOf_itemiter hT ?_)
 show wpAny _ _ (setField (.ref it) 3 (rawInt ((i:Int)+1))>>=_) _ _ ⟨hp,g,dr,tk,os⟩
 refine aa (wpAny_setField_rec hit (by simp) λ h₁ he₁ hs₁=>?_)
 replace hs₁:Heap.SameBut it hp h₁:=hs₁
 replace he₁:IsItemIter h₁ it d (i+1) es.size ep ok ov:=by
  have e:((i+1:Nat):Int)=(i:Int)+1:=by omega
  unfold IsItemIter;rw[e];simpa [rawInt]using he₁
 have hT₁:Shared.TypeIs ⟨h₁,g,dr,tk,os⟩ (.ref it) "dict_itemiterator":=⟨_,he₁,rfl⟩
 refine aa (aV (aa (wpAny_isOneOf_itemiter hT₁ (aa (wpAny_isOneOf_itemiter hT₁ ?_)))))
 show wpAny _ _ (Builtin.Dict_items.pairFromOwner (.ref it) 6 e.key e.val) _ _ ⟨h₁,g,dr,tk,os⟩
 unfold Builtin.Dict_items.pairFromOwner
 refine aa (wpAny_newTuple ?_)
 have he₂:IsItemIter (h₁.push {cls:= .type "tuple",data:= .seq #[e.key,e.val]}) it d (i+1) es.size ep ok ov:=ah _ he₁
 generalize hh₂:h₁.push {cls:= .type "tuple",data:= .seq #[e.key,e.val]}=h₂ at he₂
 have hz₁:h₁.objs.size=hp.objs.size:=hs₁.1
 have hil:it<hp.objs.size:=az hit
 have ht₂:h₂.get? hp.objs.size=some {cls:= .type "tuple",data:= .seq #[e.key,e.val]}:=by rw[←hh₂,←hz₁];exact Heap.get?_push_size _ rfl
 have hz₂:h₂.objs.size=hp.objs.size+1:=by rw[←hh₂,bA,hz₁]
 have hk₂:∀b o,b≠it→hp.get? b=some o→h₂.get? b=some o:=λ b o hb x=>by rw[←hh₂];exact ah _ (hs₁.extBut b o hb x)
 show wpAny _ _ (Builtin.Dict_items.ownedTupleIsFree (.ref it)>>=_) _ _ ⟨h₂,g,dr,tk,os⟩
 rw[hz₁]
 clear hh₂ he₁ hs₁ hT₁ hz₁ h₁
 refine aa ?_
 unfold Builtin.Dict_items.ownedTupleIsFree
 refine aa (wpAny_field he₂ rfl (x:= .none) rfl (ak ?_))
 simp only[if_true]
 refine aa (wpAny_field he₂ rfl (x:=ok) rfl (aa (wpAny_field he₂ rfl (x:=ov) rfl ?_)))
 refine aa (wpAny_setField_rec he₂ (by simp) λ h₃ he₃ hs₃=>?_)
 replace hs₃:Heap.SameBut it h₂ h₃:=hs₃
 replace he₃:IsItemIter h₃ it d (i+1) es.size ep e.key ov:=he₃
 refine aa (wpAny_setField_rec he₃ (by simp) λ h₄ he₄ hs₄=>?_)
 replace hs₄:Heap.SameBut it h₃ h₄:=hs₄
 replace he₄:IsItemIter h₄ it d (i+1) es.size ep e.key e.val:=he₄
 refine aa (wpAny_setField_rec he₄ (by simp) λ h₅ he₅ hs₅=>?_)
 replace hs₅:Heap.SameBut it h₄ h₅:=hs₅
 replace he₅:IsItemIterOut h₅ it d (i+1) es.size ep e.key e.val hp.objs.size:=he₅
 refine aa (wpAny_setField_rec he₅ (by simp) λ h₆ he₆ hs₆=>?_)
 replace hs₆:Heap.SameBut it h₅ h₆:=hs₆
 replace he₆:IsItemIterOut h₆ it d (i+1) es.size ep e.key e.val hp.objs.size:=he₆
 have hup:∀b o,b≠it→h₂.get? b=some o→h₆.get? b=some o:=λ b o hb x=>hs₆.extBut b o hb (hs₅.extBut b o hb (hs₄.extBut b o hb (hs₃.extBut b o hb x)))
 refine aa (wpAny_letGo (ak (ak ⟨_,rfl,ak (hQ h₆ he₆ (hup _ _ (bM hil) ht₂) ?_ λ b o hb x=>hup b o hb (hk₂ b o hb x))⟩)))
 show h₆.objs.size=hp.objs.size+1
 rw[hs₆.1,hs₅.1,hs₄.1,hs₃.1,hz₂]
theorem pR{α:Type}{R:α→Shared→Prop}(hh:A.handled=none)(hQ:∀h',(∀b o,s.heap.get? b=some o→h'.get? b=some o)→Q none {s with heap:=h'}):
  wpAny (model prog w) A.in1 (do let e←newExc (.type "StopIteration") [];raiseNew e:Sem α) R (λ e s'=>wpAny (model prog w) A (do let b←isInstance e (.type "StopIteration");if b=true then pure none else throw e) Q E s') s:=by
 refine aa ?_
 unfold newExc newTuple
 refine aa (wpAny_newObj_type ?_ (bo _))
 refine aa (m:=firstArgMember _ _) (ch (a:=Value.none) (by first|rfl|(simp only[firstArgMember];rfl)) ?_)
 refine wpAny_newObj_type ?_ (by size_fits)
 unfold raiseNew
 refine aa (wpAny_handled ?_)
 rw[show A.in1.handled=none from hh]
 refine aa (ak (wpAny_throw ?_))
 exact aa (wpAny_isInstance (T:= "StopIteration") (b:=true) ⟨_,Heap.get?_push_size _ rfl,rfl⟩ isSubtype_stop (ak (hQ _ λ b o h=>ah _ (ah _ h))))
theorem zv{i:Nat}{ok ov:Value}(hh:A.handled=none)(hit:IsItemIter s.heap it d i es.size ep ok ov)(hm:t4 s.heap d es ep)(hx:es[i]?=none)(hQ:∀h',Heap.ExtBut it s.heap h'→Q none {s with heap:=h'}):wpAny (model prog w) A (pyNext (.ref it)) Q E s:=by
 obtain⟨od,hod,hdd⟩:=hm
 have hT:s.TypeIs (.ref it) "dict_itemiterator":=⟨_,hit,rfl⟩
 unfold pyNext
 refine aa (wpAny_attempt (wpAny_callSpecial?_slot (name:=Str.ofString "__next__") hT PySem.F.slot_dict_itemiterator_next
  (wpAny_call_entry PySem.F.slot_dict_itemiterator_next hT PySem.F.entry_dict_itemiterator_next ?_ (PySem.F.args_dict_itemiterator_next_1 _))))
 refine aa (ak (aa (aa ?_)))
 first|refine aa (wpAny_typeNameOfWhole_itemiter hT (ak ?_))|refine aa (wpAny_typeNameOf_itemiter hT (ak ?_))
 refine aa (wpAny_fieldsOf hit rfl ?_)
 have hown:Builtin.Dict_items.ownsTuple "dict_itemiterator"=true:=by decide
 dsimp only
 rw[aZ hown]
 show wpAny _ _ (if(Value.ref d==Value.none)=true then _ else _) _ _ s
 rw[aI (show¬((Value.ref d==Value.none)=true)from Bool.false_ne_true)]
 refine aa (ak (aa (wpAny_dictEntries hod hdd ?_)))
 rw[aI (by simp)]
 refine aa (ak (aa (wpAny_dictEpoch hod hdd ?_)))
 rw[aI (by simp)]
 refine ak ?_
 dsimp only
 rw[aI (show¬((i:Int)<0)from Int.not_lt.mpr (Int.natCast_nonneg i)),Int.toNat_natCast,hx]
 dsimp only
 refine aa ?_
 first|refine aa (wpAny_typeNameOfWhole_itemiter hT (ak ?_))|refine aa (wpAny_typeNameOf_itemiter hT (ak ?_))
 show wpAny _ _ (setField (.ref it) 2 .none>>=_) _ _ s
 refine aa (wpAny_setField hit rfl (by simp) ?_)
 exact pR hh λ h' hk=>hQ h' λ b o hb e=>hk b o ((Heap.SameBut.update ..).extBut b o hb e)
end
theorem kj:Slot "dict_itemiterator" "__iter__" "dict_itemiterator.__iter__":=PySem.F.slot_dict_itemiterator_iter
theorem pB:entryFor table "dict_itemiterator.__iter__"=some Builtin.«dict_keyiterator.__iter__»:=
 entryFor_alias (id':= "dict_keyiterator.__iter__") (by kernel_rfl) (by first|rfl|decide+kernel|(unfold String.splitOn;simp+decide [String.splitOnAux])) (by decide+kernel) (by kernel_rfl)
theorem uD{E:VS}{s:Shared}{Q:VS}(hT:s.TypeIs (.ref it) "dict_itemiterator")(h:Q (.ref it) s):wpAny (model prog w) A (pyIter (.ref it)) Q E s:=by
 refine wpAny_pyIter_slot hT kj (wpAny_call_entry kj hT pB ?_ (PySem.F.args_dict_itemiterator_iter_1 _))
 show wpAny _ _ (ret (.ref it)) _ _ s
 exact ak ⟨_,rfl,"dict_itemiterator",_,hT,PySem.F.slot_dict_itemiterator_next.lookup,h⟩
theorem ug(hh:A.handled=none)(I d:Addr)(hne:d≠I)(es:Array DictEntry)(ep:Nat):
  WalksT prog w A I [I,d] [I] es.size (λ i vals=>∃e,es[i]?=some e∧vals= #[e.key,e.val]) (λ i h=>(∃ok ov,IsItemIter h I d i es.size ep ok ov)∧t4 h d es ep)
   (λ i T h=>(∃ok ov,IsItemIterOut h I d (i+1) es.size ep ok ov T)∧t4 h d es ep∧T≠I) where
 sub:=λ b hb=>by simp at hb;simp[hb]
 frame:=λ i h h' st hk=>⟨let⟨ok,ov,x⟩:=st.1;⟨ok,ov,hk I (by simp) _ x⟩,st.2.at λ o x=>hk d (by simp) o x⟩
 item:=λ i s Q E hi st hQ=>by
  obtain⟨⟨ok,ov,x⟩,hm⟩:=st
  have hx:es[i]?=some es[i]:=Array.getElem?_eq_getElem hi
  refine u9 x hm hx λ h' ho hT hz hk=>?_
  exact hQ s.heap.objs.size #[es[i].key,es[i].val] h' s.toks ⟨_,hx,rfl⟩ (aq _) ⟨_,hT,rfl,_,rfl⟩ ⟨⟨_,_,ho⟩,hm.at λ o y=>hk d o hne y,bM (az x)⟩
   λ b o hb y=>hk b o (λ e'=>hb (by simp[e'])) y
 go:=λ elts k pos i T s Q E hm hQ=>by
  obtain⟨⟨ok,ov,ho⟩,hr,hne'⟩:=hm
  refine wpAny_letOwnedTupleGo_items ho λ h' he' hs'=>hQ h' ⟨⟨ok,ov,he'⟩,hr.at λ o y=>(hs'.2 d hne).trans y⟩ λ b o hb y=>?_
  exact(hs'.2 b λ e'=>hb (by simp[e'])).trans y
 apart:=λ i T h hm hT=>hm.2.2 (aC.mp hT)
 done:=λ s Q E st hQ=>by
  obtain⟨⟨ok,ov,x⟩,hm⟩:=st
  exact zv hh x hm (Array.getElem?_eq_none (aq _)) λ h' hx=>hQ h' s.toks λ b o hb y=>hx b o (λ e'=>hb (by simp[e'])) y
 self:=λ i s Q E st hQ=>by
  obtain⟨⟨ok,ov,x⟩,hm⟩:=st
  exact uD ⟨_,x,rfl⟩ hQ
end
section
variable{es:PD}{k:Int×Int}{xs:List (List Int×Addr×Value)}
abbrev PD:=List ((Int×Int)×D)
noncomputable def ye:PD→Int×Int→D→D
 |[],_,d=>d
 |p::r,k,d=>cond (decide (p.1=k)) p.2 (ye r k d)
noncomputable def pj:PD→Int×Int→D→PD
 |[],k,d=>[(k,d)]
 |p::r,k,d=>cond (decide (p.1=k)) ((p.1,d)::r) (p::pj r k d)
noncomputable def lN(es:PD):List D:=es.map λ p=>.tup [.tup [.int p.1.1,.int p.1.2],p.2]
noncomputable def B9(d:D):Option (Int×Int):=d.tup?.bind (two λ a b=>a.int?.bind λ i=>b.int?.map λ j=>(i,j))
theorem lQ{a:D}:b6 (λ i=>a= .int i) a.int?:=by
 induction a using D.casesOn with
 |int i=>exact rfl
 |_=>exact ag
theorem Ja{α:Type}{P:List D→α→Prop}{f:D→D→Option α}{ds:List D}(k:∀a b,b6 (P [a,b]) (f a b)):b6 (P ds) (two f ds):=by
 induction ds using List.casesOn with
 |nil=>exact ag
 |cons a r=>induction r using List.casesOn with
  |nil=>exact ag
  |cons b r=>induction r using List.casesOn with
   |nil=>exact k a b
   |cons=>exact ag
theorem Gr{d:D}(h:B9 d=some k):d= .tup [.int k.1,.int k.2]:=by
 refine aT (P:=λ k:Int×Int=>d= .tup [.int k.1,.int k.2]) ?_ h
 clear h
 induction d using D.casesOn with
 |tup ds=>exact Ja (P:=λ ds (k:Int×Int)=>D.tup ds= .tup [.int k.1,.int k.2]) λ a b=>.bind (lQ.mono λ i e=>.map (lQ.mono λ j e'=>e▸e'▸rfl))
 |_=>exact ag
section
variable{prog:Program}{w:World}{c:dW}
theorem qK{i j:Int}(h:¬(i,j)=k):¬[i,j]=[k.1,k.2]:=λ e=>h (by
 have e:=List.cons.inj e
 exact Prod.ext e.1 (List.cons.inj e.2).1)
theorem eT.get(h:eT prog w c xs es)(k:Int×Int){v:Value}{d:D}(hv:b8 prog w c v d):b8 prog w c (((atKey xs [k.1,k.2]).map (·.2)).getD v) (ye es k d):=by
 induction h with
 |nil=>exact hv
 | @cons i j a u e xs es hu hd r ih=>
  show b8 prog w c _ (cond (decide ((i,j)=k)) _ _)
  by_cases hk:(i,j)=k
  ·rw[bI hk,show atKey (([i,j],a,u)::xs) [k.1,k.2]=some (a,u) by unfold atKey;rw[List.find?_cons,bI (show[i,j]=[k.1,k.2] by rw[←hk])];rfl]
   exact hd
  ·rw[bB hk,show atKey (([i,j],a,u)::xs) [k.1,k.2]=atKey xs [k.1,k.2] by unfold atKey;rw[List.find?_cons,bB (qK hk)]]
   exact ih
theorem eT.miss(h:eT prog w c xs es)(k:Int×Int)(hk:[k.1,k.2]∉xs.map (·.1)){a:Addr}{v:Value}{d:D}(hu:¬c.U a)(hv:b8 prog w c v d):eT prog w c (xs++[([k.1,k.2],a,v)]) (pj es k d):=by
 induction h with
 |nil=>exact .cons hu hv .nil
 | @cons i j a' v' d' xs es hu' h' r ih=>
  rw[List.map_cons,aJ,not_or]at hk
  show eT prog w c _ (cond (decide ((i,j)=k)) _ _)
  rw[bB λ e:(i,j)=k=>hk.1 (by rw[←e])]
  exact .cons hu' h' (ih hk.2)
theorem eT.repl(h:eT prog w c xs es)(k:Int×Int)(hn:(xs.map (·.1)).Nodup)(hk:[k.1,k.2]∈xs.map (·.1)){v:Value}{d:D}(hv:b8 prog w c v d):eT prog w c (xs.map (putAt [k.1,k.2] v)) (pj es k d):=by
 induction h with
 |nil=>exact nomatch hk
 | @cons i j a' v' d' xs es hu' h' r ih=>
  rw[List.map_cons,bF]at hn
  rw[List.map_cons]
  show eT prog w c _ (cond (decide ((i,j)=k)) _ _)
  by_cases hq:(i,j)=k
  ·have hq':[i,j]=[k.1,k.2]:=by rw[←hq]
   rw[bI hq,map_putAt_of_not_mem xs [k.1,k.2] v (hq'▸hn.1),putAt,aZ hq']
   exact .cons hu' hv r
  ·rw[bB hq,putAt,aI (qK hq)]
   exact .cons hu' h' (ih hn.2 ((aJ.mp hk).elim (λ e=>absurd e.symm (qK hq)) id))
theorem eT.length(h:eT prog w c xs es):xs.length=es.length:=by
 induction h with
 |nil=>rfl
 |cons hu h r ih=>exact ae (·+1) ih
theorem eT.stored(h:eT prog w c xs es)(k:Int×Int)(hn:(xs.map (·.1)).Nodup){a:Addr}{v:Value}{d:D}(hu:¬c.U a)(hv:b8 prog w c v d):eT prog w c (storedH xs [k.1,k.2] a v) (pj es k d):=by
 induction hq:atKey xs [k.1,k.2]using Option.casesOn with
 |none=>
  rw[storedH_new hq]
  refine h.miss k (λ hm=>?_) hu hv
  obtain⟨x,hx,e⟩:=aS.mp hm
  exact List.find?_eq_none.mp (Option.map_eq_none_iff.mp hq) x hx (bI e)
 |some p=>
  rw[storedH_old hq]
  obtain⟨x,hx,_⟩:=bL.mp hq
  exact h.repl k hn (aS.mpr ⟨x,List.mem_of_find?_eq_some hx,bP (p:=x.1=[k.1,k.2]) (List.find?_some (p:=λ x:List Int×Addr×Value=>decide (x.1=[k.1,k.2])) hx)⟩) hv
end
end
section
noncomputable def Jx:aY→Option PD
 | .pdict es=>some es
 |_=>none
noncomputable def Bd(st:St)(a:D):Option (Nat×PD):=a.ob?.bind λ j=>((aW st.σ j).bind Jx).map λ es=>(j,es)
structure Oe(st:St)(a:D)(r:Nat×PD):Prop where
 e:a= .ob r.1
 h:aW st.σ r.1=some (.pdict r.2)
theorem mW{st:St}{a:D}{r:Nat×PD}(h:Bd st a=some r):Oe st a r:=by
 refine aT (P:=Oe st a) ?_ h
 clear h
 induction a using D.casesOn with
 |ob i=>exact .map (.bnd λ o ho=>by
  induction o using aY.casesOn with
  |pdict ds=>exact⟨rfl,ho⟩
  |_=>exact ag)
 |_=>exact ag
noncomputable def Bc(st:St)(a:D)(ds:List D):Option D:=two (λ kd dd=>(B9 kd).bind λ kk=>(Bd st a).map λ r=>ye r.2 kk dd) ds
noncomputable def Ia(ev:dh)(o:Expr)(name:Str)(apos pos:Pos)(args:List Expr):Loc→St→(D→St→aD)→aD:=λ loc st k=>cond (J2 o apos pos args&&c7 name "get")
 (ev o loc st λ a st=>cS (Bd st a) λ _=>de ev args loc st λ ds st=>gH (Bc st a ds) st k) .no
noncomputable def H9(ev:dh)(o i value:Expr):Loc→St→(Loc→St→aD)→aD:=λ loc st k=>
 ev value loc st λ d st=>ev o loc st λ a st=>ev i loc st λ y st=>cS (Bd st a) λ r=>cS (B9 y) λ kk=>wc (small r.2) st λ st=>k loc (st.put r.1 (.pdict (pj r.2 kk d)))
noncomputable def wK(ev:dh)(o:Expr)(name:Str)(apos pos:Pos):Loc→St→(List D→St→aD)→aD:=λ loc st k=>cond (J2 o apos pos []&&c7 name "items")
 (ev o loc st λ a st=>cS (Bd st a) λ r=>wc (small r.2) st λ st=>k (lN r.2) (st.drop r.1)) .no
section
variable{X:Cx}{env:Env}{ev:dh}{p:Pt}{loc:Loc}{pos:Pos}{T:cV}{ns:cr}{v u:Value}{d:D}
theorem qR(R:X.rep p):GA X X.den p (newDict) (.ob p.st.next) (p.st.add (.pdict [])):=λ Q E kQ=>
 wpAny_newObj_type (kQ _ ⟨{p.s with heap:=p.s.heap.push {cls:= .type "dict",dict:=none,data:= .dict #[]}},p.addρ (p.s.heap.objs.size,p.s.heap.objs.size),p.st.add (.pdict [])⟩
  (dJ.add (W:=X.W) (o:= .pdict []) R (λ b o h=>ah _ h) (bA .. ▸bT _) rfl rfl rfl (aq _) (aq _) λ c l e=>
   ON.mk [] rfl (e▸Heap.DictOfH.new _) .nil) rfl kX) (bo _)
theorem Fi(R:X.rep p):SE X.e p (eval (.Dict [] [] pos) env) (λ k=>k (.ob p.st.next) (p.st.add (.pdict []))):=λ k out hc ho Q E kQ=>by
 rw[arm_eval_Dict]
 exact aa (aX (qR (X:=X.e) R Q E λ v q m e hv=>kQ v q _ _ m e hv hc))
inductive Ol(X:Cx)(p:Pt)(v:Value)(k:Int×Int):Prop
 |mk (a:Addr) (e:v= .ref a) (h:IsTupleKey (intKind X.prog X.w) p.s.heap [k.1,k.2] a) (hu:¬p.U X.P a)
set_option tactic.hygienic true in
theorem B8{kd:D}{kk:Int×Int}(hv:X.den p v kd)(hk:B9 kd=some kk):Ol X p v kk:=by
 obtain rfl:=Gr hk
 induction hv using denI_tup with
 |tup ho hc hd hu hi=>
  rename_i xs n
  obtain⟨l⟩:=xs
  change bH _ _ _ l _ at hi
  induction hi using denL_cons with
  |cons h1 r1=>induction r1 using denL_cons with
   |cons h2 r2=>
    cases r2
    induction h1 using denI_int with
    |int t=>induction h2 using denI_int with
     |int t'=>exact⟨_,rfl,⟨_,_,n,ho,hc,hd,.cons (by simp[intKind,Value.isInt]) (.cons (by simp[intKind,Value.isInt]) .nil)⟩,hu⟩
theorem wL(R:X.rep p){j:Nat}{es:PD}(hj:aW p.st.σ j=some (.pdict es)):ON X.prog X.w (p.cfg X.P) (p.ρ j) es:=R.obj j _ hj
theorem Id(hs:sysModules<X.h₁.objs.size)(R:X.rep p){j:Nat}{o:aY}(hj:aW p.st.σ j=some o):((p.ρ j).1==sysModules)=false:=
 beq_eq_false_iff_ne.mpr λ e=>aN.mpr (bJ (e▸(R.new j _ hj).1)) hs
theorem wX{h:Heap}{d:Addr}{xs:List (List Int×Addr×Value)}(hm:h.DictOfH (tupleKind (intKind X.prog X.w)) d xs):∀b,Value.ref d= .ref b→∃ob,h.get? b=some ob∧ob.dict=none:=
 λ b e=>hm.elim λ o ⟨_,_,ho,hc,_⟩=>⟨o,Value.ref.inj e▸ho,hc.2.1⟩
theorem yd(hr:dO X)(hs:sysModules<X.h₁.objs.size)(R:X.rep p){a:D}{vs:List Value}{ds:List D}(hv:X.den p v a)(hvs:X.denL p vs ds):b6 (λ d=>GA X X.den p (call (.builtin "dict.get") (v::vs)) d p.st) (Bc p.st a ds):=
 lq (P:=λ vs d=>GA X X.den p (call (.builtin "dict.get") (v::vs)) d p.st) hvs λ kv dv kd dd h1 h2=>.bnd λ kk hkk=>.mp λ r hr'=>by
  obtain⟨rfl,hj⟩:=mW hr'
  obtain⟨xs,e,hm,hq⟩:=wL R hj
  obtain⟨ka,rfl,hkey,hku⟩:=B8 h1 hkk
  induction hv using denI_ob with
  |ob hlt=>
   exact λ Q E kQ=>call_meetsIn PySem.F.slot_dict_get hm.typeIs PySem.F.entry_dict_get (PySem.F.args_dict_get_3 _ _ _) (meetsH_dict_get_default (tupleKind (intKind X.prog X.w)) _ ka (Id hs R hj) dv)
    ⟨aA (aO (by decide) _) (show X.A.units+80<cLine from hr),[kk.1,kk.2],xs,hkey,hm,kQ _ ⟨_,p.ρ,p.st⟩ (Mv.tick R) rfl (hq.get kk h2)⟩
theorem Fg(hr:dO X)(hs:sysModules<X.h₁.objs.size)(he:HE X env ev)(R:X.rep p)(F:ax X p env loc){o:Expr}{name:Str}{apos:Pos}{args:List Expr}:SE X.e p (eval (.Call (.Attribute o name apos) args [] pos) env) (Ia ev o name apos pos args loc p.st):=λ k out hc ho Q E kQ=>by
 obtain⟨h,hc'⟩:=ce hc ho
 obtain⟨hm,hname⟩:=(Bool.and_eq_true _ _).mp h
 obtain rfl:=gn hname
 refine iO hm ((he o loc p R F).go hc' ho λ v q a m0 hv hk pl=>?_)
 obtain⟨r,hpd,hk⟩:=bX hk ho
 obtain⟨rfl,hj⟩:=mW hpd
 obtain⟨xs,e,hmm,hq⟩:=wL (X:=X) m0.rep hj
 have G:wpAny X.m X.A (callWith pos (.builtin "dict.get") [v] (backTo pos (starEach args env)) []) Q E q.s:=
  cZ (X:=X) m0.rep (F.keepE m0 R) (λ e q R F=>he e loc q R F) (qW hm).2.1 hk ho (λ q' m'=>⟨_,.inr (.inl rfl),j4 .get⟩) λ vs q' ds st' m' e' hvs hk'=>by
   subst e'
   obtain⟨d,hd,hk'⟩:=nL hk' ho
   exact aT (P:=λ d=>GA X.e X.den q' (call (.builtin "dict.get") (v::vs)) d q'.st) (yd (X:=X.e) hr hs m'.rep (gk m' hv) hvs) hd Q E λ v2 q2 m2 e2 hv2=>kQ v2 q2 d q'.st (dY m0 (dY m' m2)) e2 hv2 hk'
 induction hv using denI_ob with
 |ob hlt=>exact getMethod_builtin hmm.typeIs PySem.F.plainAttrs_dict PySem.F.slot_dict_get PySem.F.type_dict_get (wX hmm) G
end
end
section
section
variable{X:Cx}{env:Env}{ev:dh}{p:Pt}{loc:Loc}{pos:Pos}{T:cV}{ns:cr}{v u x:Value}{d:D}
theorem Fa(hr:dO X)(R:X.rep p){j:Nat}{es:PD}{kd:D}{kk:Int×Int}(hu:X.den p u (.ob j))(hj:aW p.st.σ j=some (.pdict es))(hk:X.den p v kd)(hkk:B9 kd=some kk)(hx:X.den p x d)(hsm:small es=true):
  GA X (λ _ _ _=>True) p (setItem u v x) () (p.st.put j (.pdict (pj es kk d))):=by
 intro Q E kQ
 obtain⟨ka,rfl,hkey,hku⟩:=B8 hk hkk
 obtain⟨xs,e,hm,hq⟩:=wL R hj
 have hn:(xs.map (·.1)).Nodup:=by obtain⟨_,_,_,_,_,_,_,_,hn⟩:=hm;exact hn
 induction hu using denI_ob with
 |ob hlt=>
  refine wpAny_setItem_heap (knd:=tupleKind (intKind X.prog X.w)) (aA (aO (by decide) _) (show X.A.units+80<cLine from hr)) hkey hm (λ h' hm' hs'=>?_) (by rw[hq.length];exact ad (c8 hsm) (by decide))
  refine kQ () ⟨{p.s with heap:=h',toks:=p.s.toks+(tupleKind (intKind X.prog X.w)).draws [kk.1,kk.2]},p.ρ,p.st.put j (.pdict (pj es kk d))⟩ (dJ.upd R hj (λ a b hb h1 h2=>(hs'.2 a h1).trans hb) (aM hs'.1.symm) rfl rfl rfl λ c l hc=>
   ON.mk _ e (hc▸hm') (eT.stored (hq.mono l (iw hm)) kk hn (hkey.elim λ o ⟨its,n,ho,_⟩=>(l.same _ _ ho hku).2) (hx.mono l))) rfl trivial
theorem E9(ok:X.ok)(hr:dO X)(he:HE X env ev)(R:X.rep p)(F:ax X p env loc){o i value:Expr}{tp:Pos}(hcomp:ie value=false):SS X env p (exec (.Assign [.Subscript o i tp] value pos) env) (H9 ev o i value loc p.st):=by
 intro k out hc ho Q E kN kR
 rw[exec_Assign_arm]
 refine aa (aX ?_)
 rw[show swapsWithSole [.Subscript o i tp] value pos.line env=pure false from(show swapsWith value (some (.Subscript o i tp)) pos.line env=pure false from d6 hcomp)]
 refine aa (ak (aa ((he value loc p R F).go hc ho λ v q d m hv hk=>?_)))
 rw[show swappedStores [.Subscript o i tp] value env=pure none from rfl]
 have F0:=F.keepE m R
 refine aa (ak ?_)
 show wpAny _ _ (do assignAll v ((assignEach [.Subscript o i tp] env).map (·.2));pure .next) Q E q.s
 rw[cU rfl]
 refine aa ?_
 show wpAny _ _ (assign (.Subscript o i tp) env v) _ _ _
 rw[arm_assign_Subscript]
 refine aa (aV ((he o loc q m.rep F0).go hk ho λ u q1 a m1 hu hk1=>aa (aV ((he i loc q1 m1.rep (F0.keepE m1 m.rep)).go hk1 ho λ y q2 b m2 hy hk2=>?_))))
 obtain⟨r,hpd,hA⟩:=bX hk2 ho
 obtain⟨kk,hkk,hB⟩:=bX hA ho
 obtain⟨hsm,hC⟩:=ni hB ho
 obtain⟨rfl,hj⟩:=mW hpd
 exact aa (aX (aa (aV (Fa (X:=X.e) hr m2.rep (gk m2 hu) hj hy hkk (gk m2 (gk m1 hv)) hsm _ E λ _ q3 m3 e3 _=>jV
  (ak (kN q3 loc _ (eO (dY m (dY m1 (dY m2 m3)))) e3 (F.keepE (dY m (dY m1 (dY m2 m3))) R) hC))))))
inductive Om(prog:Program)(w:World)(c:dW)(xs:List (List Int×Addr×Value))(j:Nat)(d:D):Prop
 |mk (x:List Int×Addr×Value) (hx:xs[j]?=some x) (ds:List D) (e:d= .tup ds) (h:bH prog w c [.ref x.2.1,x.2.2] ds)
theorem vD{prog:Program}{w:World}{c:dW}{xs:List (List Int×Addr×Value)}{es:PD}(h:eT prog w c xs es)(hk:∀x∈xs,IsTupleKey (intKind prog w) c.h x.1 x.2.1):∀{j:Nat} {d:D},(lN es)[j]?=some d→Om prog w c xs j d:=by
 induction h with
 |nil=>exact λ hj=>nsK hj
 | @cons i j' a v d' xs es hu hd r ih=>
  intro j d hj
  induction j using Nat.casesAuxOn with
  |zero=>
   obtain rfl:=an hj
   refine⟨_,rfl,_,rfl,.cons ?_ (.cons hd .nil)⟩
   obtain⟨o,its,n,ho,hc,hdt,hi⟩:=hk _ (.head _)
   refine .tup ho hc hdt hu ?_
   generalize its.toList=l at hi
   cases hi with
   |cons h1 r1=>
   cases r1 with
   |cons h2 r2=>
   cases r2
   obtain⟨t1,rfl⟩:=Value.isInt_shape h1
   obtain⟨t2,rfl⟩:=Value.isInt_shape h2
   exact .cons (.int _ _) (.cons (.int _ _) .nil)
  |succ j=>
   obtain⟨x,hx,ds,e,h⟩:=ih (λ x hx=>hk x (.tail _ hx)) (j:=j) (d:=d) hj
   exact⟨x,hx,ds,e,h⟩
theorem vC(es:PD):(lN es).length=es.length:=aG ..
theorem A0(hh:X.A.handled=none)(R:X.rep p){d:Addr}{ps:PD}{xs:List (List Int×Addr×Value)}(hm:p.s.heap.DictOfH (tupleKind (intKind X.prog X.w)) d xs)(hq:eT X.prog X.w (p.cfg X.P) xs ps)(hu:¬p.U X.P d){vw:Obj}(hvw:vw={cls:= .type "dict_items",data:= .fields #[.ref d]}){Q:VS}{E:VS}(kQ:GK X p [] true (lN ps) Q):
  wpAny X.m X.A (pyIter (.ref p.s.heap.objs.size)) Q E {p.s with heap:=p.s.heap.push vw}:=by
 obtain⟨od,es,ep,hod,hex,hdd,hes,hkeys,_⟩:=hm
 subst hvw
 have h1:=ah {cls:= .type "dict_items",data:= .fields #[.ref d]} hod
 have g:=cu.push p {cls:= .type "dict_items",data:= .fields #[.ref d]} p.s.toks
 exact vA (s:=(p.pushO {cls:= .type "dict_items",data:= .fields #[.ref d]}).s) ⟨_,Heap.get?_push_size _ rfl,rfl,rfl⟩ ⟨od,h1,hdd⟩ (rj (new:=[_]) kQ (g.trans (cu.push (p.pushO _) _ _)) (List.forall_mem_singleton.mpr ⟨g.size,ao (Nat.lt_succ_self _) (aM (bA ..).symm)⟩)
  (ug hh _ d (aL (ao (az hod) g.size)) es ep) ⟨⟨.none,.none,Heap.get?_push_size _ rfl⟩,⟨od,ah _ h1,hdd⟩⟩ ((vC ps).trans (hq.length.symm.trans (size_of_entries hes).symm)) (ro (fp':=[d]) (j5 hod (.inr hu))) (λ _ h=>h) λ j dd hjd vals ⟨en,hen,e⟩=>by
   obtain⟨x,hx,ds,rfl,hds⟩:=vD hq hkeys hjd
   rw[bC,entry_at hes j,hx]at hen
   obtain rfl:=an hen
   exact⟨ds,rfl,e▸hds⟩)
theorem yc(hh:X.A.handled=none)(hs:sysModules<X.h₁.objs.size)(he:HE X env ev)(R:X.rep p)(F:ax X p env loc){o:Expr}{name:Str}{apos:Pos}:SI X.e env p (.Call (.Attribute o name apos) [] [] pos) true (wK ev o name apos pos loc p.st):=by
 intro k out hc ho Q E kQ
 obtain⟨h,hc'⟩:=ce hc ho
 obtain⟨hm,hname⟩:=(Bool.and_eq_true _ _).mp h
 obtain rfl:=gn hname
 refine iO hm ((he o loc p R F).go hc' ho λ v q a m0 hv hk pl=>?_)
 obtain⟨r,hpd,hk1⟩:=bX hk ho
 obtain⟨hsm,hk2⟩:=ni hk1 ho
 obtain⟨rfl,hj⟩:=mW hpd
 have R0:X.rep q:=m0.rep
 obtain⟨xs,e,hmm,hq⟩:=wL R0 hj
 induction hv using denI_ob with
 |ob hlt=>
  refine getMethod_builtin hmm.typeIs PySem.F.plainAttrs_dict PySem.F.slot_dict_items PySem.F.type_dict_items (wX hmm) ?_
  refine callWith_of (P:=λ _=>True) rfl (λ h _=>⟨_,.inr (.inl rfl),Looks.of_pure rfl⟩) (PySem.evalArgs_none ⟨trivial,?_⟩)
  show wpAny _ _ (call (.builtin "dict.items") [.ref (q.ρ r.1).1]) _ _ _
  refine wpAny_call_entry PySem.F.slot_dict_items hmm.typeIs PySem.F.entry_dict_items ?_ (PySem.F.args_dict_items_1 _)
  unfold Builtin.«dict.items»
  refine aa ?_
  unfold Builtin.Dict.noArgs
  refine aa (wpAny_notOrdered_dict hmm.typeIs ?_)
  show wpAny _ _ (pure (q.ρ r.1).1) _ _ _
  refine ak ?_
  show wpAny _ _ (Builtin.Dict.showsAll (q.ρ r.1).1>>=_) _ _ _
  unfold Builtin.Dict.showsAll
  rw[aI (by rw[Id hs R0 hj];exact Bool.false_ne_true)]
  have hP' a (h:X.P a):X.P a∨a=(q.ρ r.1).1:= .inl h
  have Md:=R0.drop_mv (W:=λ _=>False) hj
  exact aa (ak (aa (wpAny_newObj_type (ak ⟨_,rfl,A0 (p:=q.drop r.1) hh Md.rep hmm (hq.mono (kV hj hP') (iw hmm)) (λ h=>h.elim (λ ⟨i,o,hi,hx⟩=>have hi:=cX hi;have b:=R0.sep r.1 i _ _ hj hi.2 hi.1;hx.elim b.1 b.2.1) (R0.own r.1 _ hj).1) rfl
   λ I new q' g hn It=>kQ I new (q.drop r.1) q' (lN r.2) _ (dY m0 Md) g rfl hn (by rw[aH]at It;exact It) hk2⟩))))
end
end
section
noncomputable def Cs:ScopeKind→Bool
 | .function=>true
 |_=>false
theorem n6{k:ScopeKind}(h:Cs k=true):k= .function:=by
 revert h
 induction k using ScopeKind.casesOn<;>first|exact λ _=>rfl|exact ftK
noncomputable def IJ(ev:dh)(e:Expr):Loc→St→(List D→St→aD)→aD:=λ loc st k=>ev e loc st λ d st=>(w6 d).elim (cS (mf st d) λ r=>k r.2 (st.drop r.1)) λ ds=>k ds st
noncomputable def NR(ev:dh)(e:Expr)(pos:Pos):Expr→Loc→St→(List D→St→aD)→aD
 | .Attribute o name apos=>cond (c7 name "items") (wK ev o name apos pos) (mn ev e)
 |_=>mn ev e
noncomputable def lM(ev:dh)(e:Expr):Loc→St→(List D→St→aD)→aD:=match e with
 | .Attribute o a pos=>IJ ev e
 | .Call f args kw pos=>cond (args.isEmpty&&kw.isEmpty) (NR ev e pos f) (mn ev e)
 |_=>mn ev e
section
variable{X:Cx}{env:Env}{ev:dh}{et:mP}{es:zU}{eb:rU}{p:Pt}{loc:Loc}{pos:Pos}{T:cV}{ns:cr}{x:Str}{d:D}
theorem C9{v:Value}{j:Nat}{ds:List D}(R:X.rep p)(hv:X.den p v (.ob j))(hj:aW p.st.σ j=some (.list ds)):X.den (p.drop j) v (.lst ds):=by
 obtain⟨xs,n,el,hol,hil⟩:HP .. :=R.obj j _ hj
 induction hv using denI_ob with
 |ob hlt=>exact .lst (hn:=rfl) hol rfl rfl (λ h=>h.elim (λ ⟨i,o,hi,hx⟩=>have hi:=cX hi;have b:=R.sep j i _ _ hj hi.2 hi.1;hx.elim b.1 b.2.1) (R.own j _ hj).1) (hil.mono (kV (P:=X.P) (P':=X.P) hj λ a h=>.inl h))
theorem Hc(hh:X.A.handled=none)(he:HE X env ev)(R:X.rep p)(F:ax X p env loc){e:Expr}:SI X.e env p e false (IJ ev e loc p.st):=λ k out hc ho Q E kQ=>
 (he e loc p R F).go hc ho λ v q d m hv hk=>by
  induction hi:w6 d using Option.casesOn with
  |some ds=>
   rw[hi]at hk
   exact SI.of_gi m (n4 hh m.rep hv hi) λ I new q' m g hn It=>kQ I new q q' ds q.st m g rfl hn It hk
  |none=>
   rw[hi]at hk
   obtain⟨r,hr,hk2⟩:=bX hk ho
   obtain⟨rfl,hj⟩:=aT (P:=qw q.st d) kC hr
   have R1:X.rep q:=m.rep
   have Md:=R1.drop_mv (W:=λ _=>False) hj
   exact SI.of_gi (X:=X) (q₁:=q.drop r.1) (dY m Md) (n4 hh Md.rep (C9 R1 hv hj) rfl) λ I new q' m g hn It=>kQ I new (q.drop r.1) q' r.2 _ m g rfl hn It hk2
theorem ET{e:Expr}{b:Bool}{c1 c2:Loc→St→(List D→St→aD)→aD}(h1:SI X.e env p e true (c1 loc p.st))(h2:SI X.e env p e b (c2 loc p.st)):SI X.e env p e b (cond b c1 c2 loc p.st):=by
 induction b using Bool.casesOn with
 |true=>exact h1
 |false=>exact h2
theorem kJ(hh:X.A.handled=none)(hs:sysModules<X.h₁.objs.size)(he:HE X env ev)(R:X.rep p)(F:ax X p env loc){e:Expr}:SI X.e env p e (lL e) (lM ev e loc p.st):=by
 have P {e}:=re hh he R F (e:=e)
 induction e using Expr.casesOn with
 |Attribute o a pos=>exact Hc hh he R F
 |Call f args kw pos=>
  induction args using List.casesOn with
  |cons=>exact P
  |nil=>induction kw using List.casesOn with
   |cons=>exact P
   |nil=>induction f using Expr.casesOn with
    |Attribute o name apos=>
     exact ET (yc hh hs he R F) P
    |_=>exact P
 |_=>exact P
end
abbrev jD:=cr→dh
abbrev jC:=cr→mP
structure pP(X:Cx)(evN:jD)(etN:jC):Prop where
 e:∀P' env ns,env.scope.names=ns→HE (X.withP P') env (evN ns)
 t:∀P' env ns,env.scope.names=ns→HT (X.withP P') env (etN ns)
section
variable{X:Cx}{env:Env}{evN:jD}{etN:jC}{p:Pt}{loc:Loc}{pos:Pos}{T:cV}{ns:cr}{x:Str}{d:D}
theorem pP.parts(h:pP X evN etN)(nm:cr)(ifs:List Expr)(elt:Expr):oX X nm ifs elt (etN nm) (evN nm elt):=
 ⟨λ P' cenv loc e q hn R F=>h.t P' cenv nm hn e loc q R F,λ P' cenv loc q hn R F=>h.e P' cenv nm hn elt loc q R F⟩
noncomputable def xd(g:Comprehension):Bool:=decide (g.is_async=0)&&yX g.target g.iter
theorem og{g:Comprehension}(h:xd g=true):g=⟨g.target,g.iter,g.ifs,0⟩∧yX g.target g.iter=true:=by
 obtain⟨t,i,f,a⟩:=g
 obtain⟨h1,h2⟩:=(Bool.and_eq_true _ _).mp h
 exact⟨ae (Comprehension.mk t i f) (bP h1),h2⟩
noncomputable def PE(evN:jD)(etN:jC)(ns:cr)(elt:Expr)(sc:cr):List Comprehension→Loc→St→(D→St→aD)→aD
 |[],_,_,_=>.no
 |g::gs,loc,st,k=>cond (xd g) (cond gs.isEmpty (v4 (cB ns sc) sc g.target g.ifs (lM (evN ns) g.iter loc st) (etN (cB ns sc)) (evN (cB ns sc) elt) loc k)
   (cS gs.head? λ g'=>cond (gs.tail.isEmpty&&xd g') (Do (cB ns sc) sc g.target g'.target g.ifs g'.ifs (lM (evN ns) g.iter loc st) (lM (evN (cB ns sc)) g'.iter) (etN (cB ns sc)) (evN (cB ns sc) elt) loc k) .no)) .no
noncomputable def xp(evN:jD)(etN:jC)(ns:cr):Expr→Loc→St→(D→St→aD)→aD:=λ e loc st k=>match e with
 | .ListComp elt gens scope _=>cond (Cs scope.kind&&rE ns scope.names) (PE evN etN ns elt scope.names gens loc st k) .no
 |_=>.no
inductive LCV(e:Expr):Prop
 |mk (elt:Expr) (gens:List Comprehension) (s:Scope) (vp:Pos) (h:e= .ListComp elt gens s vp)
theorem Dn{e:Expr}{st:St}{k:D→St→aD}{out:aD}(hc:af (xp evN etN ns e loc st k)=out)(ho:out≠.no):LCV e:=by
 revert hc
 induction e using Expr.casesOn<;>first|exact λ _=>⟨_,_,_,_,rfl⟩|exact λ h=>absurd h.symm ho
theorem xo(hh:X.A.handled=none)(hs:sysModules<X.h₁.objs.size)(hns:env.scope.names=ns)(h:pP X evN etN)(R:X.rep p)(F:ax X p env loc){e:Expr}:SE X.e p (eval e env) (xp evN etN ns e loc p.st):=by
 intro k out hc ho Q E kQ
 obtain⟨elt,gens,scope,pos,rfl⟩:=Dn hc ho
 obtain⟨hb,hc0⟩:=ce hc ho
 obtain⟨h1,h2⟩:=(Bool.and_eq_true _ _).mp hb
 induction gens using List.casesOn with
 |nil=>exact absurd hc0.symm ho
 |cons g gs=>
  obtain⟨hg,hc1⟩:=ce hc0 ho
  obtain⟨e1,h3⟩:=og hg
  have h4:=kK h3
  rw[e1]
  induction gs using List.casesOn with
  |nil=>exact tL hh hns R F (n6 h1) (lV h2) h4.1 h4.2 (kJ hh hs (h.e X.P env ns hns) R F) (h.parts _ _ _) k out hc1 ho Q E kQ
  |cons g' gs=>
   obtain⟨hb,hc2⟩:=ce hc1 ho
   obtain⟨h6,h7⟩:=(Bool.and_eq_true _ _).mp hb
   obtain rfl:=List.isEmpty_iff.mp h6
   obtain⟨e2,h8⟩:=og h7
   have h8:=kK h8
   rw[e2]
   exact tK hh hns R F (n6 h1) (lV h2) h4.1 h4.2 h8.1 h8.2 (kJ hh hs (h.e X.P env ns hns) R F) (h.parts _ _ _) (h.parts _ _ _) ⟨λ P' cenv loc q hn R F=>kJ (X:=X.withP P') hh hs (h.e P' cenv _ hn) R F⟩ k out hc2 ho Q E kQ
noncomputable def Cm:Option NameKind→Bool
 |some .local=>true
 |_=>false
theorem y0(k:Option NameKind):(k==some .local)=Cm k:=by
 induction k using Option.casesOn with
 |none=>rfl
 |some k=>induction k using NameKind.casesOn<;>rfl
noncomputable def Mm(ns:cr)(t value:Expr):Bool:=match t with
 | .Name x px=>(match value with
  | .ListComp _ _ s vp=>Cm (cA ns x)&&Nat.beq px.line vp.line&& !(s.names.any λ (n,k)=>n==x&&(k== .local||k== .cell))
  |_=>false)
 |_=>false
theorem Aw{e:Env}(hk:e.scope.kind= .function)(hns:e.scope.names=ns){elt:Expr}{gens:List Comprehension}{s:Scope}{vp:Pos}{t:Expr}{n:Nat}:swapsWith (.ListComp elt gens s vp) (some t) n e=pure (Mm ns t (.ListComp elt gens s vp)):=by
 induction t using Expr.casesOn with
 |Name x px=>
  show(pure (e.blockKind== .function&&e.kindOf x==some .local&&px.line==vp.line&& !(s.names.any λ (n,k)=>n==x&&(k== .local||k== .cell))):Sem Bool)=_
  have hb:e.blockKind= .function:=by unfold Env.blockKind;rw[hk];rfl
  unfold Mm
  dsimp only
  rw[hb,cW hns,y0,k4]
  rfl
 |_=>rfl
end
end
section
variable{e:Expr}
section
variable{X:Cx}{env:Env}{evN:jD}{etN:jC}{p:Pt}{loc:Loc}{pos:Pos}{T:cV}{ns:cr}{x:Str}{d:D}
noncomputable def Ii:Expr→Bool
 | .Name _ _=>true
 |_=>false
noncomputable def Nv(evN:jD)(etN:jC)(ns:cr)(t elt:Expr)(sc:cr):List Comprehension→Loc→St→(Loc→St→aD)→aD
 |[],_,_,_=>.no
 |g::gs,loc,st,k=>cond (xd g&&gs.isEmpty) (Dq ns (cB ns sc) sc g.target g.ifs (lM (evN ns) g.iter loc st) (etN (cB ns sc)) (evN (cB ns sc) elt) t loc k) .no
noncomputable def Dl(evN:jD)(etN:jC)(ns:cr)(t value:Expr):Loc→St→(Loc→St→aD)→aD:=λ loc st k=>match value with
 | .ListComp elt gens scope _=>cond (Ii t&&(Cs scope.kind&&rE ns scope.names)) (Nv evN etN ns t elt scope.names gens loc st k) .no
 |_=>.no
noncomputable def IL(T:cV)(evN:jD)(etN:jC)(ns:cr)(t value:Expr):Loc→St→(Loc→St→aD)→aD:=λ loc st k=>
 cond (eR t) .no (cond (Mm ns t value) (Dl evN etN ns t value loc st k) (xp evN etN ns value loc st λ d st=>Jg T ns (evN ns) t d loc st k))
noncomputable def Ku:Expr→Bool
 | .ListComp .. =>true
 |_=>false
theorem Gx(h:Ku e=true):LCV e:=by
 revert h
 induction e using Expr.casesOn<;>first|exact λ _=>⟨_,_,_,_,rfl⟩|exact ftK
inductive Og(e:Expr):Prop
 |mk (x:Str) (px:Pos) (h:e= .Name x px)
theorem BL(h:Ii e=true):Og e:=by
 revert h
 induction e using Expr.casesOn<;>first|exact λ _=>⟨_,_,rfl⟩|exact ftK
theorem EE{env:Env}{t:Expr}{elt:Expr}{gens:List Comprehension}{s:Scope}{vp:Pos}:swappedStores [t] (.ListComp elt gens s vp) env=pure none:=by
 induction t using Expr.casesOn<;>rfl
theorem CQ(ok:X.ok)(hh:X.A.handled=none)(hs:sysModules<X.h₁.objs.size)(hns:env.scope.names=ns)(hW:kc true env X.W)(h:pP X evN etN)(R:X.rep p)(F:ax X p env loc){t elt:Expr}{gens:List Comprehension}{scope:Scope}{vp:Pos}(hsw:Mm ns t (.ListComp elt gens scope vp)=true):
  SS X env p (exec (.Assign [t] (.ListComp elt gens scope vp) pos) env) (Dl evN etN ns t (.ListComp elt gens scope vp) loc p.st):=by
 intro k out hc ho Q E kN kR
 obtain⟨hb,hc1⟩:=ce hc ho
 obtain⟨h0,hb⟩:=(Bool.and_eq_true _ _).mp hb
 obtain⟨h1,h2⟩:=(Bool.and_eq_true _ _).mp hb
 obtain⟨x,px,rfl⟩:=BL h0
 induction gens using List.casesOn with
 |nil=>exact absurd hc1.symm ho
 |cons g gs=>
  obtain⟨hb,hc2⟩:=ce hc1 ho
  obtain⟨hg,h6⟩:=(Bool.and_eq_true _ _).mp hb
  obtain rfl:=List.isEmpty_iff.mp h6
  obtain⟨e1,h3⟩:=og hg
  have h4:=kK h3
  rw[e1]
  exact Dp ok hW hh hns R F (n6 h1) (lV h2) h4.1 h4.2 (kJ hh hs (h.e X.P env ns hns) R F) (h.parts _ _ _) ((Aw F.kind hns).trans (ae pure hsw)) k out hc2 ho Q E kN kR
theorem Dm(ok:X.ok)(hh:X.A.handled=none)(hs:sysModules<X.h₁.objs.size)(hns:env.scope.names=ns)(hW:kc true env X.W)(tok:eD X T)(h:pP X evN etN)(R:X.rep p)(F:ax X p env loc){t value:Expr}(hlc:Ku value=true):
  SS X env p (exec (.Assign [t] value pos) env) (IL T evN etN ns t value loc p.st):=by
 intro k out hc ho Q E kN kR
 obtain⟨hst,hc1⟩:=cY hc ho
 obtain⟨elt,gens,scope,vp,rfl⟩:=Gx hlc
 induction hsw:Mm ns t (.ListComp elt gens scope vp)using Bool.casesOn with
 |true=>
  rw[hsw]at hc1
  exact CQ ok hh hs hns hW h R F hsw k out hc1 ho Q E kN kR
 |false=>
  rw[hsw]at hc1
  rw[exec_Assign_arm]
  refine aa (aX ?_)
  rw[show swapsWithSole [t] (.ListComp elt gens scope vp) pos.line env=pure false from(Aw F.kind hns).trans (ae pure hsw)]
  refine aa (ak (aa ((xo hh hs hns h R F).go hc1 ho λ v q d m hv hk=>?_)))
  rw[EE]
  refine aa (ak ?_)
  show wpAny _ _ (do assignAll v ((assignEach [t] env).map (·.2));pure .next) Q E q.s
  rw[cU hst]
  refine aa ?_
  show wpAny _ _ (assign t env v) _ _ _
  exact Au ok hh hns hW tok (h.e X.P env ns hns) m.rep (F.keepE m R) hv hk ho λ q2 loc2 st2 m2 e2 F2 hk2=>ak (kN q2 loc2 st2 (jw (eO m) m2) e2 F2 hk2)
end
end
section
variable{i:Int}{items:Array Value}{Q:Option Value→Shared→Prop}
theorem sD:typeLookup (.type "tuple") "__reversed__"=pure none:=by rw[typeLookup_type,builtinLookup_eq_fast];kernel_rfl
theorem dQ:Slot "reversed" "__next__" "reversed.__next__":=
 .of (owner:= "reversed") (n:= "__next__") (by rw[typeLookup_type,builtinLookup_eq_fast];kernel_rfl) (by decide+kernel) (by decide+kernel) (by decide+kernel)
  (by first|exact .inl (by decide+kernel)|exact .inr (by decide+kernel)) (by rw[isSubtype_type];kernel_rfl)
theorem iW:entryFor table "reversed.__next__"=some Builtin.«reversed.__next__»:=entryFor_of_tree (by kernel_rfl)
theorem jR(a:Value):argsOk "reversed.__next__" ⟨[a],[]⟩:=by unfold argsOk;kernel_rfl
theorem jG:Slot "reversed" "__iter__" "reversed.__iter__":=
 .of (owner:= "reversed") (n:= "__iter__") (by rw[typeLookup_type,builtinLookup_eq_fast];kernel_rfl) (by decide+kernel) (by decide+kernel) (by decide+kernel)
  (by first|exact .inl (by decide+kernel)|exact .inr (by decide+kernel)) (by rw[isSubtype_type];kernel_rfl)
theorem pK(a:Value):argsOk "reversed.__iter__" ⟨[a],[]⟩:=by unfold argsOk;kernel_rfl
theorem ow:entryFor table "reversed.__iter__"=some Builtin.«dict_keyiterator.__iter__»:=
 entryFor_alias (id':= "dict_keyiterator.__iter__") (by kernel_rfl) (by first|rfl|decide+kernel|(unfold String.splitOn;simp+decide [String.splitOnAux])) (by decide+kernel) (by kernel_rfl)
theorem pg:Slot "reversed" "__init__" "object.__init__":=
 .of (owner:= "object") (n:= "__init__") (by rw[typeLookup_type,builtinLookup_eq_fast];kernel_rfl) (by decide+kernel) (by decide+kernel) (by decide+kernel)
  (by first|exact .inl (by decide+kernel)|exact .inr (by decide+kernel)) (by rw[isSubtype_type];kernel_rfl)
theorem v6:TypeCalled "reversed" "reversed.__new__" "object.__init__":=
 ⟨by decide+kernel,by decide+kernel,⟨_,_,PySem.F.mro_reversed⟩,madeBy_type PySem.F.mro_reversed PySem.F.lookup_reversed_new (by decide+kernel),by decide+kernel,by rw[isSubtype_type];kernel_rfl,pg⟩
noncomputable def AP(t:Addr)(i:Int):Obj:={cls:= .type "reversed",data:= .fields #[.ref t,rawInt i]}
inductive iA(h:Heap)(a t:Addr)(i:Int):Prop
 |mk (o:Obj) (ho:h.get? a=some o) (hc:o.cls= .type "reversed") (hd:o.data= .fields #[.ref t,rawInt i])
theorem iA.at{h h':Heap}{a t:Addr}(x:iA h a t i)(e:∀o,h.get? a=some o→h'.get? a=some o):iA h' a t i:=x.casesOn λ o ho hc hd=>⟨o,e _ ho,hc,hd⟩
section
variable{prog:Program}{w:World}{A:Around}{E:VS}{s:Shared}
theorem iA.typeIs{a t:Addr}(x:iA s.heap a t i):s.TypeIs (.ref a) "reversed":=x.casesOn λ o ho hc _=>⟨o,ho,hc⟩
theorem mH(t:Addr)(items:Array Value):Meets (Builtin.«reversed.__new__» ⟨[.type "reversed",.ref t],[]⟩)
  (λ _ R s=>s.heap.IsTuple t items∧(items.size:Int)<2^63∧∀tk,R (.ok (.ret (.ref s.heap.objs.size))) {s with heap:=s.heap.push (AP t ((items.size:Int)-1)),toks:=tk}):=by
 intro prog w A R s ⟨ht,hsz,h⟩
 obtain⟨o,ho,hc,n,hd⟩:=id ht
 have hT:s.TypeIs (.ref t) "tuple":=⟨o,ho,hc⟩
 have hT':IsTup s.heap t items:=⟨o,ho,hc,n,hd⟩
 unfold Builtin.«reversed.__new__»
 refine aa (ch (PySem.newClass_reversed _) ?_)
 dsimp only
 refine aa (ch (a:=()) (by first|rfl|kernel_rfl) ?_)
 refine aa (ch (a:=()) (by first|rfl|kernel_rfl) ?_)
 refine aa (wpAny_specialOf hT sD ?_)
 dsimp only
 refine aa ?_
 show wpAny _ _ (isInstance (.ref t) (.type "dict")>>=_) _ _ _
 refine aa (wpAny_isInstance hT (b:=false) (by rw[isSubtype_type];kernel_rfl) ?_)
 rw[aI (by decide)]
 show wpAny _ _ (specialOf (.ref t) "__getitem__">>=_) _ _ _
 refine aa (wpAny_specialOf hT PySem.F.slot_tuple_getitem.lookup ?_)
 dsimp only
 rw[aZ (by decide+kernel)]
 refine ak ?_
 rw[aI (by decide)]
 refine aa (PyProof.Rows.len_tuple hT' hsz ?_)
 refine aa (ch (a:=some (items.size:Int)) rfl ?_)
 dsimp only
 refine aa ?_
 show wpAny _ _ (newObj (.type "reversed") (.fields #[.ref t,rawInt ((items.size:Int)-1)])) _ _ _
 refine wpAny_newObj_type ?_ (by size_fits)
 exact ak (h _)
theorem oI{t:Addr}{Q:VS}(ht:s.heap.IsTuple t items)(hsz:(items.size:Int)<2^63)(h:∀tk,Q (.ref s.heap.objs.size) {s with heap:=s.heap.push (AP t ((items.size:Int)-1)),toks:=tk}):wpAny (model prog w) A (call (.type "reversed") [.ref t]) Q E s:=by
 refine callType_new v6 (by decide) (PySem.F.typeCall_reversed_1 _) (PySem.F.newCall_reversed_1 _) (λ obj=>PySem.F.args_object_init_2 obj _) PySem.F.entry_reversed_new (mH t items) ⟨ht,hsz,λ tk=>?_⟩
 exact⟨⟨_,Heap.get?_push_size _ rfl,rfl⟩,h tk⟩
theorem li{it t:Addr}{Q:VS}(hit:iA s.heap it t i)(h:Q (.ref it) s):wpAny (model prog w) A (pyIter (.ref it)) Q E s:=by
 refine wpAny_pyIter_slot hit.typeIs jG (wpAny_call_entry jG hit.typeIs ow ?_ (pK _))
 show wpAny _ _ (ret (.ref it)) _ _ s
 exact ak ⟨_,rfl,"reversed",_,hit.typeIs,dQ.lookup,h⟩
theorem pq{it t:Addr}{i:Nat}{x:Value}(hne:t≠it)(hit:iA s.heap it t (i:Int))(ht:s.heap.IsTuple t items)(hx:items[i]?=some x)(hsz:(items.size:Int)<2^63)(hQ:∀h' tk,iA h' it t ((i:Int)-1)→Heap.SameBut it s.heap h'→Q (some x) {s with heap:=h',toks:=tk}):wpAny (model prog w) A (pyNext (.ref it)) Q E s:=by
 obtain⟨o,ho,hc,hd⟩:=id hit
 have hlt:i<items.size:=(Array.getElem?_eq_some_iff.mp hx).1
 obtain⟨ot,hot,hct,nt,hdt⟩:=id ht
 have hT:s.TypeIs (.ref t) "tuple":=⟨ot,hot,hct⟩
 unfold pyNext
 refine aa (wpAny_attempt (wpAny_callSpecial?_slot (name:=Str.ofString "__next__") hit.typeIs dQ
  (wpAny_call_entry dQ hit.typeIs iW ?_ (jR _))))
 unfold Builtin.«reversed.__next__»
 refine aa (ch (a:=(Value.ref it,[])) rfl ?_)
 dsimp only
 refine aa (wpAny_field ho hd (x:= .ref t) rfl ?_)
 refine aa (wpAny_field ho hd (x:=rawInt (i:Int)) rfl ?_)
 show wpAny _ _ (if(i:Int)<0 then _ else _) _ _ s
 rw[aI (by omega)]
 refine aa (wpAny_specialOf hT PySem.F.slot_tuple_getitem.lookup ?_)
 rw[aI (by decide)]
 refine aa (wpAny_mkInt ?_)
 have hit':({s with toks:=s.toks+1}:Shared).heap.get? it=some o:=ho
 refine aa (wpAny_attempt (getItem_tuple (t:=t) (items:=items) ⟨ot,hot,hct,nt,hdt⟩ (by omega) (by omega) (j:=i) (kn hlt) hx ?_))
 refine aa (wpAny_field hit' hd (x:=rawInt (i:Int)) rfl ?_)
 show wpAny _ _ (setField (.ref it) 1 (rawInt ((i:Int)-1))>>=_) _ _ _
 refine aa (wpAny_setField hit' hd (by simp) ?_)
 refine ak ⟨x,rfl,ak (hQ _ _ ?_ (Heap.SameBut.update ..))⟩
 exact⟨_,Heap.get?_update_self _ ho (Obj.isFreed_of_fields (Obj.data_mapFields hd _)),(Obj.cls_mapFields ..).trans hc,by
  rw[Obj.data_mapFields hd];simp⟩
theorem qO{it t:Addr}(hh:A.handled=none)(hit:iA s.heap it t (-1))(hQ:∀h',Heap.ExtBut it s.heap h'→Q none {s with heap:=h'}):wpAny (model prog w) A (pyNext (.ref it)) Q E s:=by
 obtain⟨o,ho,hc,hd⟩:=id hit
 unfold pyNext
 refine aa (wpAny_attempt (wpAny_callSpecial?_slot (name:=Str.ofString "__next__") hit.typeIs dQ
  (wpAny_call_entry dQ hit.typeIs iW ?_ (jR _))))
 unfold Builtin.«reversed.__next__»
 refine aa (ch (a:=(Value.ref it,[])) rfl ?_)
 dsimp only
 refine aa (wpAny_field ho hd (x:= .ref t) rfl ?_)
 refine aa (wpAny_field ho hd (x:=rawInt (-1)) rfl ?_)
 show wpAny _ _ (if(-1:Int)<0 then _ else _) _ _ s
 rw[aZ (by decide)]
 refine aa (wpAny_rule ?_)
 refine aa ?_
 show wpAny _ _ (setField (.ref it) 1 (rawInt (-1))>>=λ _=>setField (.ref it) 0 .none) _ _ _
 refine aa (wpAny_setField ho hd (by simp) ?_)
 refine wpAny_setField (Heap.get?_update_self _ ho (Obj.isFreed_of_fields (Obj.data_mapFields hd _))) (Obj.data_mapFields hd _) (by simp) ?_
 refine aa ?_
 refine pR hh λ h' hk=>?_
 exact hQ h' λ b o hb eo=>hk b o ((bt _ _ (Ne.symm hb)).trans ((bt _ _ (Ne.symm hb)).trans eo))
end
theorem z8{prog:Program}{w:World}{A:Around}(hh:A.handled=none)(I t:Addr)(hne:t≠I)(items:Array Value)(hsz:(items.size:Int)<2^63):
  Walks prog w A I [I,t] [I] items.size (λ i v=>items[items.size-1-i]?=some v) (λ i h=>i≤items.size∧iA h I t ((items.size:Int)-1-(i:Int))∧h.IsTuple t items) where
 sub:=λ b hb=>aC.mp hb▸.head _
 frame:=λ _ _ _ x hk=>⟨x.1,x.2.1.at λ o e=>hk I (.head _) o e,x.2.2.elim λ o h=>⟨o,hk t (.tail _ (.head _)) o h.1,h.2⟩⟩
 item:=λ i s Q E hi x hQ=>by
  have hlt:items.size-1-i<items.size:=by omega
  have hit:=x.2.1
  rw[show(items.size:Int)-1-(i:Int)=((items.size-1-i:Nat):Int) by omega]at hit
  have hx:items[items.size-1-i]?=some (items[items.size-1-i]'hlt):=Array.getElem?_eq_getElem hlt
  refine pq hne hit x.2.2 hx hsz λ h' tk hit' hs'=>?_
  rw[show((items.size-1-i:Nat):Int)-1=(items.size:Int)-1-((i+1:Nat):Int) by omega]at hit'
  exact hQ _ h' tk hx ⟨hi,hit',x.2.2.elim λ o h=>⟨o,(hs'.2 t hne).trans h.1,h.2⟩⟩ λ b o hb eo=>hs'.extBut b o (λ h=>hb (aC.mpr h)) eo
 done:=λ s Q E x hQ=>by
  have hit:=x.2.1
  rw[show(items.size:Int)-1-(items.size:Int)= -1 by omega]at hit
  exact qO hh hit λ h' he'=>hQ h' s.toks λ b o hb eo=>he' b o (λ h=>hb (aC.mpr h)) eo
 self:=λ _ _ _ _ x hQ=>li x.2.1 hQ
end
section
open AutoSeq1 (wpAny_loadPart')
variable{I:Addr}{items:Array Value}{Q:VS}{c:Nat}
noncomputable def RvT(T:String):Prop:=T= "list_reverseiterator"∨T= "reversed"
theorem yt:typeLookup (.type "reversed") "__len__"=pure none:=by rw[typeLookup_type,builtinLookup_eq_fast];kernel_rfl
theorem qj:typeLookup (.type "reversed") "__length_hint__"=pure (some (.builtin "reversed.__length_hint__")):=by rw[typeLookup_type,builtinLookup_eq_fast];kernel_rfl
section
variable{prog:Program}{w:World}{A:Around}{E:VS}{s:Shared}
theorem jH:Slot "reversed" "__length_hint__" "reversed.__length_hint__":=
 .of (owner:= "reversed") (n:= "__length_hint__") qj (by decide+kernel) (by decide+kernel) (by decide+kernel)
  (by first|exact .inl (by decide+kernel)|exact .inr (by decide+kernel)) (by rw[isSubtype_type];kernel_rfl)
theorem oz:entryFor table "reversed.__length_hint__"=some Builtin.«reversed.__length_hint__»:=entryFor_of_tree (by kernel_rfl)
theorem pM(a:Value):argsOk "reversed.__length_hint__" ⟨[a],[]⟩:=by unfold argsOk;kernel_rfl
theorem CB{t:Addr}{Q:Bool→Shared→Prop}(hit:iA s.heap I t ((items.size:Int)-1))(ht:s.heap.IsTuple t items)(hsz:items.size≤sizeLine)(h:∀b tk,s.toks≤tk→Q b {s with toks:=tk}):wpAny (model prog w) A (Builtin.List.listLengthHint (.ref I)) Q E s:=by
 have hT:=hit.typeIs
 obtain⟨o,ho,hc,hd⟩:=id hit
 obtain⟨ot,hot,hct,nt,hdt⟩:=id ht
 have hlim:items.size≤16777216:=by rw[sizeLine_eq]at hsz;exact hsz
 unfold Builtin.List.listLengthHint
 refine aa (wpAny_specialOf hT yt ?_)
 show wpAny _ _ (specialOf (Value.ref I) (Str.ofString "__length_hint__")>>=_) _ _ _
 refine aa (wpAny_specialOf hT qj ?_)
 (generalize hid:("reversed.__length_hint__":String)=id0;(fail_if_success (clear hid id0));wp_delta;rw[show splitId id0=some ("reversed","__length_hint__")from by subst hid;decide+kernel];subst hid)
 refine aa (wpAny_isInstance (b:=true) hT (by rw[isSubtype_type];kernel_rfl) ?_)
 show wpAny _ _ (rule "list.length-hint.hint">>=_) _ _ _
 refine aa (wpAny_rule ?_)
 refine aa (ch (jH.bind _) ?_)
 dsimp only
 refine aa (wpAny_attempt (wpAny_call_entry jH hT oz ?_ (pM _)))
 unfold Builtin.«reversed.__length_hint__»
 refine aa (ch (a:=Value.ref I) rfl ?_)
 refine aa (wpAny_field ho hd (x:= .ref t) rfl ?_)
 rw[aI (by simp)]
 refine aa (PyProof.Rows.len_tuple ⟨ot,hot,hct,nt,hdt⟩ (by omega) ?_)
 refine aa (ch (a:=some (items.size:Int)) rfl ?_)
 dsimp only
 refine aa (wpAny_field (s:={s with toks:=s.toks+1+1}) ho hd (x:=rawInt ((items.size:Int)-1)) rfl ?_)
 show wpAny _ _ (if(items.size:Int)<(items.size:Int)-1+1 then _ else _) _ _ _
 rw[aI (by omega)]
 refine aa (wpAny_mkInt (ak ⟨_,rfl,?_⟩))
 refine aa (ch (a:=some ((items.size:Int)-1+1)) rfl ?_)
 dsimp only
 rw[aI (by simp only[Builtin.List.listFitsIndex,Bool.not_eq_true',Bool.and_eq_false_iff,decide_eq_false_iff_not];omega),aI (by omega),aI (by simp only[Builtin.List.listTooLong,decide_eq_true_eq];omega)]
 exact ak (h _ _ (by show s.toks≤s.toks+1+1+1;omega))
theorem y5{Q:Bool→Shared→Prop}(hT:s.TypeIs (.ref I) "list_reverseiterator")(h:∀b tk,s.toks≤tk→Q b {s with toks:=tk}):wpAny (model prog w) A (Builtin.List.listLengthHint (.ref I)) Q E s:=CC hT (h false s.toks (aq _))
structure my(prog:Program)(w:World)(I l:Addr)(items:Array Value)(St:Nat→Heap→Prop):Prop where
 walk:∀A:Around,A.handled=none→Walks prog w A I [I,l] [I] items.size (λ i v=>items[items.size-1-i]?=some v) St
 ty:∃T,RvT T∧∀i h,St i h→∃o,h.get? I=some o∧o.cls= .type T
 old:∀i h,St i h→∃o,h.get? l=some o
 hint:∀(A:Around) (s:Shared) (Q:Bool→Shared→Prop) (E:VS),St 0 s.heap→(∀b tk,s.toks≤tk→Q b {s with toks:=tk})→wpAny (model prog w) A (Builtin.List.listLengthHint (.ref I)) Q E s
theorem iV{S l:Addr}{acc:Array Value}{res:Value}{R:Result→Shared→Prop}{St:Nat→Heap→Prop}(hh:A.handled=none)(hS:IsL s.heap S acc c)(rv:my prog w I l items St)(hst0:St 0 s.heap)(hSI:S≠I)(hSl:S≠l)(hn:acc.size+items.size<sizeLine)(hR:∀s' acc' c',Moved [S,I] (λ a b=>b=a) s s'→IsL s'.heap S acc' c'→acc'.toList=acc.toList++items.toList.reverse→R (.ok (.ret res)) s'):
  wpAny (model prog w) A.in1 (Builtin.List.listExtendWith (.ref S) (.ref I) res)
   (λ fin s'=>match fin with| .done f=>R (.ok f) s'| .again c'=>c'.quiet=true∧codeAny (model prog w) A c' R s') (λ e s'=>R (.error e) s') s:=by
 have W:=x0 (rv.walk A.in1 hh).toS acc
 obtain⟨T,hv,hty⟩:=rv.ty
 have hT:s.TypeIs (.ref I) T:=hty 0 _ hst0
 unfold Builtin.List.listExtendWith
 refine aa (jE hT ?_)
 have h1:Builtin.List.listSameRef (.ref S) (.ref I)=false:=by simp[Builtin.List.listSameRef,hSI]
 have h2:(Builtin.List.listSameRef (.ref S) (.ref I)||Value.type T== .type "list"||Value.type T== .type "tuple")=false:=by
  rw[h1];rcases hv with rfl|rfl<;>decide
 rw[h2,aI (by decide)]
 refine aa ((rv.walk A.in1 hh).self 0 s _ _ hst0 ?_)
 refine aa (aV (rv.hint _ s _ _ hst0 λ b tk htk=>?_))
 have hst:(λ i (s:Shared)=>acc.size≤i∧(λ i (s:Shared)=>St i s.heap) (i-acc.size) s) acc.size s:=by
  refine⟨aq _,?_⟩
  rw[Nat.sub_self]
  exact hst0
 have hacc:ItemsOf (λ i v=>if i<acc.size then acc[i]?=some v else(λ i v=>items[items.size-1-i]?=some v) (i-acc.size) v) acc acc.size:=by
  refine⟨rfl,λ j v hj=>?_⟩
  have:j<acc.size:=(Array.getElem?_eq_some_iff.mp hj).1
  simp only[aZ this];exact hj
 have go:∀(s₁:Shared) (c₁:Nat),Moved [S,I] (λ a b=>b=a) s s₁→(∀b o,b≠S→s.heap.get? b=some o→s₁.heap.get? b=some o)→IsL s₁.heap S acc c₁→
   wpAny (model prog w) A.in1 (again (.builtin "list.extend.loop" ⟨[.ref S,.ref I,res],[]⟩))
    (λ fin s'=>match fin with| .done f=>R (.ok f) s'| .again c'=>c'.quiet=true∧codeAny (model prog w) A c' R s') (λ e s'=>R (.error e) s') s₁:=by
  intro s₁ c₁ hm₁ oth hS₁
  have hst₁:=W.frame acc.size s s₁.heap s₁.toks hst hm₁.toks λ b hb o e=>oth b o (λ h=>by
   subst h
   simp only[aJ,aQ,or_false]at hb
   rcases hb with h|h
   ·exact hSI h
   ·exact hSl h) e
  have e₁:s₁={s with heap:=s₁.heap,toks:=s₁.toks}:=hm₁.eq_with
  rw[←e₁]at hst₁
  refine ak ⟨plainId_quiet PySem.F.plain_extend_loop _,codeAny_extend_loopS W (by omega) S (by simp[hSI,hSl]) res items.size acc.size s₁ acc c₁ (by omega) (by omega) hst₁ hS₁ hacc λ s' acc' c' hm hS' hacc'=>?_⟩
  refine hR s' acc' c' (Moved.trans (λ _ _ _ h h'=>h'.trans h) hm₁ hm) hS' ?_
  apply List.ext_getElem?
  intro j
  have hsz:acc'.size=acc.size+items.size:=hacc'.1
  rw[Array.getElem?_toList]
  by_cases hj:j<acc'.size
  ·have hv:=hacc'.2 j acc'[j] (Array.getElem?_eq_getElem hj)
   rw[Array.getElem?_eq_getElem hj]
   by_cases hj2:j<acc.size
   ·simp only[aZ hj2]at hv
    rw[List.getElem?_append_left (by simpa using hj2),Array.getElem?_toList,hv]
   ·simp only[aI hj2]at hv
    rw[List.getElem?_append_right (by simpa using hj2),List.getElem?_reverse (by simp;omega)]
    simp only[Array.length_toList,Array.getElem?_toList]
    exact hv.symm
  ·rw[Array.getElem?_eq_none (by omega)]
   exact(List.getElem?_eq_none (by simp;omega)).symm
 have direct:wpAny (model prog w) A.in1 (again (.builtin "list.extend.loop" ⟨[.ref S,.ref I,res],[]⟩))
    (λ fin s'=>match fin with| .done f=>R (.ok f) s'| .again c'=>c'.quiet=true∧codeAny (model prog w) A c' R s') (λ e s'=>R (.error e) s') {s with toks:=tk}:=
  go {s with toks:=tk} c ⟨λ _ _ _ h=>h,rfl,rfl,rfl,htk⟩ (λ _ _ _ h=>h) hS
 induction b using Bool.casesOn with
 |false=>
  have h3:(false||(["set","frozenset","dict","dict_keys","dict_values","dict_items"]:List String).any (Value.type T== .type ·))=false:=by rcases hv with rfl|rfl<;>decide
  show wpAny _ _ (if(false||(["set","frozenset","dict","dict_keys","dict_values","dict_items"]:List String).any (Value.type T== .type ·))=true then _ else _) _ _ _
  rw[h3,aI (by decide)]
  exact direct
 |true=>
  show wpAny _ A.in1 (rule "list.extend.makes-room">>=λ _=>Builtin.List.listTouch (.ref S)>>=λ _=>
   again (.builtin "list.extend.loop" ⟨[.ref S,.ref I,res],[]⟩)) _ _ _
  refine aa (wpAny_rule ?_)
  refine aa ?_
  show wpAny _ A.in1 (updateSeq S (·.push .none)>>=λ _=>updateSeq S (·.pop)) _ _ _
  refine aa (wpAny_updateSeq hS rfl ?_ (by omega) (by rw[Array.size_push];omega))
  have hS₂:=Heap.get?_update_self (Obj.mapSeq (·.push Value.none)) hS rfl
  refine wpAny_updateSeq hS₂ rfl ?_ (by show(acc.push Value.none).size≤_;rw[Array.size_push];omega) (by show(acc.push Value.none).pop.size≤_;rw[Array.pop_push];omega)
  have hS₃:=Heap.get?_update_self (Obj.mapSeq (·.pop)) hS₂ rfl
  have oth:∀b o,b≠S→s.heap.get? b=some o→((s.heap.update S (Obj.mapSeq (·.push Value.none))).update S (Obj.mapSeq (·.pop))).get? b=some o:=
   λ b o hb e=>(bt _ _ (Ne.symm hb)).trans ((bt _ _ (Ne.symm hb)).trans e)
  have e:=hS₃
  simp only[Obj.mapSeq,Array.pop_push]at e
  exact go _ _ ⟨λ b o hb h=>oth b o (λ h=>hb (by simp[h])) h,rfl,rfl,rfl,htk⟩ oth e
theorem vS{S l:Addr}{acc:Array Value}{St:Nat→Heap→Prop}(hh:A.handled=none)(hS:IsL s.heap S acc c)(rv:my prog w I l items St)(hst0:St 0 s.heap)(hSI:S≠I)(hSl:S≠l)(hn:acc.size+items.size<sizeLine)(hQ:∀s' acc' c',Moved [S,I] (λ a b=>b=a) s s'→IsL s'.heap S acc' c'→acc'.toList=acc.toList++items.toList.reverse→Q .none s'):
  wpAny (model prog w) A (call (.builtin "list.extend") [.ref S,.ref I]) Q E s:=by
 refine gj (codeAny_call_builtin PySem.F.slot_list_extend.plain PySem.F.entry_list_extend (PySem.F.slot_list_extend.check _ _ _ _ _ _ _ _ (⟨_,hS,rfl⟩:s.TypeIs (.ref S) "list") (PySem.F.args_list_extend_2 _ _) ?_))
 unfold Builtin.«list.extend»
 show wpAny _ _ (Builtin.List.listExtendWith (.ref S) (.ref I) .none) _ _ s
 exact iV (A:=A) (R:=wants Q E) hh hS rv hst0 hSI hSl hn λ s' acc' c' hm hS' e=>hQ s' acc' c' hm hS' e
theorem pJ{l:Addr}{St:Nat→Heap→Prop}(hh:A.handled=none)(rv:my prog w I l items St)(hst0:St 0 s.heap)(hn:items.size<sizeLine)(hQ:∀s' acc' c',Moved [s.heap.objs.size,I] (λ a b=>b=a) s s'→IsL s'.heap s.heap.objs.size acc' c'→acc'.toList=items.toList.reverse→Q (.ref s.heap.objs.size) s'):
  wpAny (model prog w) A (call (.type "list") [.ref I]) Q E s:=by
 have hIlt:I<s.heap.objs.size:=by obtain⟨T,_,h⟩:=rv.ty;obtain⟨o,ho,_⟩:=h 0 _ hst0;exact az ho
 have hllt:l<s.heap.objs.size:=by obtain⟨o,ho⟩:=rv.old 0 _ hst0;exact az ho
 refine callType_codes (Q₁:=λ obj s₁=>obj= .ref s.heap.objs.size∧s₁={s with heap:=s.heap.push {cls:= .type "list",data:= .seq #[]}}) PySem.F.called_list (PySem.F.typeCall_list_1 _) PySem.F.entry_list_init
  (code_list_new _ ⟨rfl,rfl⟩) λ obj s₁ h₁=>?_
 obtain⟨rfl,rfl⟩:=h₁
 have hS:(s.heap.push {cls:= .type "list",data:= .seq #[]}).get? s.heap.objs.size=some {cls:= .type "list",data:= .seq #[]}:=Heap.get?_push_size _ rfl
 refine⟨⟨_,hS,rfl⟩,PySem.F.args_list_init_2 _ _,?_⟩
 show wpAny _ _ (do let old←Builtin.List.listItems (.ref s.heap.objs.size);Builtin.List.listUpdate (.ref s.heap.objs.size) (λ _=> #[]);letGo old.toList.reverse;Builtin.List.listExtendWith (.ref s.heap.objs.size) (.ref I) .none) _ _ _
 refine aa ?_
 unfold Builtin.List.listItems
 refine aa (wpAny_seqItems hS rfl (ak ?_))
 show wpAny _ _ (updateSeq s.heap.objs.size (λ _=> #[])>>=λ _=>letGo (#[]:Array Value).toList.reverse>>=λ _=>Builtin.List.listExtendWith (.ref s.heap.objs.size) (.ref I) .none) _ _ _
 refine aa (wpAny_updateSeq hS rfl ?_)
 have hS₂:=Heap.get?_update_self (Obj.mapSeq (λ _=>(#[]:Array Value))) hS rfl
 have oth:∀b o,b≠s.heap.objs.size→s.heap.get? b=some o→((s.heap.push {cls:= .type "list",data:= .seq #[]}).update s.heap.objs.size (Obj.mapSeq (λ _=>(#[]:Array Value)))).get? b=some o:=
  λ b o hb e=>(bt _ _ (Ne.symm hb)).trans (ah _ e)
 refine aa (wpAny_letGo ?_)
 have hst1:=(rv.walk A hh).frame 0 _ ((s.heap.push {cls:= .type "list",data:= .seq #[]}).update s.heap.objs.size (Obj.mapSeq (λ _=>(#[]:Array Value)))) hst0 λ b hb o ho=>oth b o (aL (az ho)) ho
 refine iV (A:=A.in1) (acc:= #[]) hh hS₂ rv hst1 (bM hIlt) (bM hllt) (by simpa using hn) λ s' acc' c' hm hS' e=>?_
 refine⟨rfl,hQ s' acc' c' ?_ hS' (by simpa using e)⟩
 exact⟨λ b o hb ho=>hm.heap b o hb (oth b o (λ h=>hb (by simp[h])) ho),hm.gens,hm.drawn,hm.os,hm.toks⟩
end
end
section
variable{items:Array Value}
section
variable{prog:Program}{w:World}
theorem uF{I l:Addr}(hne:l≠I):my prog w I l items (λ i h=>i≤items.size∧h.IsRevIter I l ((items.size:Int)-1-(i:Int))∧h.IsList l items) where
 walk:=λ A hh=>Walks.listRev hh I l hne items
 ty:=⟨"list_reverseiterator",.inl rfl,λ i h st=>st.2.1.elim λ o h=>⟨o,h.1,h.2.1⟩⟩
 old:=λ i h st=>st.2.2.elim λ o h=>⟨o,h.1⟩
 hint:=λ A s Q E st h=>y5 (st.2.1.elim λ o h=>⟨o,h.1,h.2.1⟩) h
theorem sk{I t:Addr}(hne:t≠I)(hsz:items.size≤sizeLine):my prog w I t items (λ i h=>i≤items.size∧iA h I t ((items.size:Int)-1-(i:Int))∧h.IsTuple t items) where
 walk:=λ A hh=>z8 hh I t hne items (Int.lt_of_le_of_lt (Int.ofNat_le.mpr hsz) (by decide))
 ty:=⟨"reversed",.inr rfl,λ i h st=>st.2.1.casesOn λ o ho hc _=>⟨o,ho,hc⟩⟩
 old:=λ i h st=>st.2.2.elim λ o h=>⟨o,h.1⟩
 hint:=λ A s Q E st h=>CB (by have:=st.2.1;rwa [Int.natCast_zero,Int.sub_zero]at this) st.2.2 hsz h
end
section
variable{X:Cx}{env:Env}{ev:dh}{p:Pt}{loc:Loc}{pos:Pos}{ds es:List D}{v u:Value}
theorem ik{f:Value}{first:List Value}{a:Expr}{s:Shared}{Q:VS}{E:VS}(hs:eR a=false)(hk:∀h,Looks X.m h (keeperOf f) Keeper.machine)(h:wpAny X.m X.A (eval a env) (λ v s₁=>wpAny X.m X.A (call f (first++[v])) Q E s₁) E s):wpAny X.m X.A (callWith pos f first (backTo pos (starEach [a] env)) []) Q E s:=by
 refine callWith_of (P:=λ _=>True) (by rw[cx hs,cK];rfl) (λ h _=>⟨_,.inr (.inl rfl),hk h⟩) ?_
 rw[cx hs,cK]
 exact evalArgs_plain (spliced_cons (bW h (λ v s₁ h₁=>ak ⟨trivial,h₁⟩) λ _ _ h=>h))
structure Oc(X:Cx)(q₁ q:Pt)(I l:Addr)(xs:Array Value)(Sta:Nat→Heap→Prop)(ds:List D):Prop where
 g:cu q₁ q
 hn:dV q₁ q [I]
 rv:my X.prog X.w I l xs Sta
 st0:Sta 0 q.s.heap
 hi:X.denL q₁ xs.toList ds
 hu:¬q₁.U X.P l
 ne:l≠I
 len:ds.length≤1000000
noncomputable def Qc(X:Cx)(env:Env)(p:Pt)(e:Expr)(c:(List D→St→aD)→aD):Prop:=
 ∀k out,af (c k)=out→out≠.no→∀(Q:VS) (E:VS),
  (∀I l xs Sta q₁ q ds st,X.e.mv p q₁→q₁.st=st→Oc X q₁ q I l xs Sta ds→af (k ds st)=out→Q (.ref I) q.s)→wpAny X.m X.A (eval e env) Q E p.s
noncomputable def Ju(ev:dh)(r:Str)(pr:Pos)(e:Expr):Loc→St→(List D→St→aD)→aD:=λ loc st k=>cond (eR e) .no
 (ev (.Name r pr) loc st λ fd st=>cond (gP "reversed" fd) (ev e loc st λ a st=>cS (AN a) λ ds=>cond (small ds) (k ds st) .no) .no)
noncomputable def RvP(X:Cx)(p:Pt)(u:Value)(ds:List D):Prop:=ds.length≤1000000→∀(Q:VS) (E:VS),(∀I l xs Sta q,Oc X p q I l xs Sta ds→Q (.ref I) q.s)→wpAny X.m X.A (call (.type "reversed") [u]) Q E p.s
theorem wG(o:Obj)(t:Nat):dV p ⟨{p.s with heap:=p.s.heap.push o,toks:=t},p.ρ,p.st⟩ [p.s.heap.objs.size]:=List.forall_mem_singleton.mpr ⟨aq _,ao (Nat.lt_succ_self _) (aM (bA ..).symm)⟩
theorem AU{a:D}(hu:X.den p u a):b6 (RvP X p u) (AN a):=by
 induction hu using b8.casesOn with
 |tup hot hct hdt hut hi=>
  refine λ hlen Q E kQ=>oI ⟨_,hot,hct,_,hdt⟩ (by rw[bH.size hi];exact yz (aA hlen (by decide))) λ tk=>kQ p.s.heap.objs.size _ _ _ ⟨_,p.ρ,p.st⟩ ⟨cu.push p _ tk,wG _ tk,sk (aL (az hot)) (by rw[bH.size hi];exact ad hlen (by decide)),
   ⟨bo _,⟨_,Heap.get?_push_size _ rfl,rfl,by rw[Int.natCast_zero,Int.sub_zero];rfl⟩,⟨_,ah _ hot,hct,_,hdt⟩⟩,hi,hut,aL (az hot),hlen⟩
 |lst hot hct hdt hut hi=>
  refine λ hlen Q E kQ=>call_reversed_list ⟨_,hot,hct,_,hdt⟩ (kQ p.s.heap.objs.size _ _ _ ⟨_,p.ρ,p.st⟩ ⟨cu.push p _ p.s.toks,wG _ p.s.toks,uF (aL (az hot)),
   ⟨bo _,⟨_,Heap.get?_push_size _ rfl,rfl,by rw[Int.natCast_zero,Int.sub_zero];rfl⟩,⟨_,ah _ hot,hct,_,hdt⟩⟩,hi,hut,aL (az hot),hlen⟩)
 |_=>exact ag
theorem sj(he:HE X env ev)(R:X.rep p)(F:ax X p env loc){r:Str}{pr:Pos}{e:Expr}:Qc X env p (.Call (.Name r pr) [e] [] pos) (Ju ev r pr e loc p.st):=by
 intro k out hc ho Q E kQ
 obtain⟨hst,hc⟩:=cY hc ho
 refine wpAny_Call_Name_kw ((he _ loc p R F).go hc ho λ v q d m hv hk=>?_)
 obtain⟨hty,hk⟩:=ce hk ho
 obtain rfl:=gO hv hty
 refine ik hst (λ h=>gq) ((he _ loc q m.rep (F.keepE m R)).go hk ho λ u q1 a m1 hu hk1=>?_)
 obtain⟨ds,hds,hk1⟩:=bX hk1 ho
 obtain⟨hsm,hk1⟩:=ce hk1 ho
 exact aT (P:=RvP X q1 u) (AU hu) hds (c8 hsm) Q E λ I l xs Sta q V=>kQ I l xs Sta q1 q ds q1.st (dY m m1) rfl V hk1
theorem wT{I a b:Addr}(h:a∈[b,I])(hb:a∉[I]):a=b:=(aJ.mp h).elim id λ h=>absurd h hb
theorem rc(R:X.rep p)(hh:X.A.handled=none){I l:Addr}{xs:Array Value}{Sta:Nat→Heap→Prop}(rv:my X.prog X.w I l xs Sta)(hst0:Sta 0 p.s.heap)(hi:X.denL p xs.toList ds)(hPI:X.P I)(hWI:X.W I)(hsz:ds.length<sizeLine):GA X X.den p (call (.type "list") [.ref I]) (.ob p.st.next) (p.st.add (.list ds.reverse)):=λ Q E kQ=>
 cj (pJ hh rv hst0 (by rw[bH.size hi];exact hsz) λ s' acc' c' hm hS e' hz=>
  have M:=nR (own:=[I]) (s':=s') (ds:=ds.reverse) R (λ b o hb ho=>hm.heap b o (λ h=>dK _ (wT h hb▸az ho)) ho) (List.forall_mem_singleton.mpr hPI) (List.forall_mem_singleton.mpr hWI) hz hm.gens hm.drawn hm.os (aq _) hS (e'▸hi.reverse)
  kQ _ _ M.1 rfl M.2)
theorem rq(R:X.rep p)(hh:X.A.handled=none){I l:Addr}{xs:Array Value}{Sta:Nat→Heap→Prop}{j:Nat}(hu:X.den p u (.ob j))(ho:aW p.st.σ j=some (.list ds))(rv:my X.prog X.w I l xs Sta)(hst0:Sta 0 p.s.heap)(hi:X.denL p xs.toList es)(hPI:X.P I)(hWI:X.W I)(hsz:ds.length+es.length<sizeLine)(hsep:l≠(p.ρ j).1):GA X X.den p (call (.builtin "list.extend") [u,.ref I]) .none (p.st.put j (.list (ds++es.reverse))):=by
 intro Q E kQ
 obtain⟨ys,m,rfl,e,hS,hj'⟩:=kI R hu ho
 refine cj (vS hh hS rv hst0 (λ h=>(R.own j _ ho).1 (h▸hPI)) hsep.symm (by rw[bH.size hi,bH.size hj'];exact hsz) λ s' acc' c' hm hS' e' hz=>?_)
 exact kQ .none ⟨s',p.ρ,p.st.put j (.list (ds++es.reverse))⟩ (dJ.updO (own:=[I]) R ho (List.forall_mem_singleton.mpr hPI) (List.forall_mem_singleton.mpr hWI) (λ a b hb hab h1 h2=>hm.heap a b (λ h=>h1 (wT h hb)) hab) hz hm.gens hm.drawn hm.os λ c l hc=>
  ⟨_,c',e,hc▸hS',e'▸(hj'.mono l).append (hi.reverse.mono l)⟩) rfl .none
end
end
section
variable{d:D}{X:Cx}{p:Pt}{v:Value}
noncomputable def sZ(ev:dh)(x:Str)(px:Pos)(r:Str)(pr:Pos)(e:Expr):Loc→St→(D→St→aD)→aD:=λ loc st k=>
 ev (.Name x px) loc st λ fd st=>cond (gP "list" fd) (Ju ev r pr e loc st λ ds st=>k (.ob st.next) (st.add (.list ds.reverse))) .no
noncomputable def IA:Option oZ→Bool
 |some .extend=>true
 |_=>false
theorem Ct{o:Option oZ}(h:IA o=true):o=some .extend:=by
 revert h
 induction o using Option.casesOn with
 |none=>exact ftK
 |some m=>induction m using oZ.casesOn<;>first|exact λ _=>rfl|exact ftK
noncomputable def xk(ev:dh)(o:Expr)(name:Str)(apos pos:Pos)(r:Str)(pr:Pos)(e:Expr)(cpos:Pos):Loc→St→(D→St→aD)→aD:=λ loc st k=>cond (J2 o apos pos [.Call (.Name r pr) [e] [] cpos])
 (ev o loc st λ a st=>cond (IA (nO st a name)) (Ju ev r pr e loc st λ es st=>cS (mf st a) λ q=>wc (small q.2) st λ st=>k .none (st.put q.1 (.list (q.2++es.reverse)))) .no) .no
noncomputable def Iw:D→Option Bool
 | .none=>some false
 | .bool _=>some false
 | .int _=>some false
 | .str _=>some false
 | .tup _=>some true
 | .lst _=>some true
 |_=>none
noncomputable def Iz:Option Bi→Bool
 |some .isinstance=>true
 |_=>false
noncomputable def Iy(d:D):Bool:=Iz (d.val?.bind Lg)
theorem Cp{o:Option Bi}(h:Iz o=true):o=some .isinstance:=by
 revert h
 induction o using Option.casesOn with
 |none=>exact ftK
 |some m=>induction m using Bi.casesOn<;>first|exact λ _=>rfl|exact ftK
theorem Co(hv:X.den p v d)(h:Iy d=true):v= .builtin "isinstance":=by
 obtain⟨w,hw,hb⟩:=nk.mp (Cp h)
 exact(aT (P:=λ w=>v=w) (qC hv) hw).trans (tS hb)
noncomputable def Ah(td:List D):Option Unit:=two (λ t1 t2=>cond (gP "tuple" t1&&gP "list" t2) (some ()) none) td
noncomputable def Ix(ev:dh)(x:Str)(px:Pos)(a:Expr)(ts:List Expr):Loc→St→(D→St→aD)→aD:=λ loc st k=>cond (eR a) .no
 (ev (.Name x px) loc st λ fd st=>cond (Iy fd) (ev a loc st λ d st=>de ev ts loc st λ td st=>cS (Ah td) λ _=>cS (Iw d) λ b=>k (.bool b) st) .no)
section
variable{X:Cx}{env:Env}{ev:dh}{p:Pt}{loc:Loc}{pos:Pos}{ds es:List D}{v u:Value}
noncomputable def Cx.rv(X:Cx)(I:Addr):Cx:={X with P:=more X.P [I],W:=λ a=>a∈[I]}
theorem wE{I:Addr}:I∈[I]:=List.mem_singleton_self I
theorem vm(hh:X.A.handled=none)(he:HE X env ev)(R:X.rep p)(F:ax X p env loc){x r:Str}{px pr cpos:Pos}{e:Expr}:SE X.e p (eval (.Call (.Name x px) [.Call (.Name r pr) [e] [] cpos] [] pos) env) (sZ ev x px r pr e loc p.st):=by
 intro k out hc ho Q E kQ
 refine wpAny_Call_Name_kw ((he _ loc p R F).go hc ho λ v q d m hv hk=>?_)
 obtain⟨hty,hk⟩:=ce hk ho
 obtain rfl:=gO hv hty
 refine ik rfl (λ h=>gq) (sj he m.rep (F.keepE m R) _ out hk ho _ E λ I l xs Sta q₁ q2 ds st m1 e2 V hk2=>?_)
 have R1:X.rep q₁:=m1.rep
 exact rc (X:=X.rv I) (V.g.rep R1 V.hn) hh V.rv V.st0 (V.hi.mono (V.g.cfg V.hn)) (.inr wE) wE (aA V.len (by decide)) _ E λ v q3 m3 e3 hv3=>
  kQ v q3 _ _ (dY m (dY m1 (V.g.via R1 V.hn (λ a h=>.inr h) m3))) (e3.trans (by rw[V.g.st.trans e2])) (b8.mono ((V.g.st.trans e2)▸hv3) (dM λ _ h=>.inl h)) hk2
theorem zn(hh:X.A.handled=none)(he:HE X env ev)(R:X.rep p)(F:ax X p env loc){o:Expr}{name r:Str}{apos pr cpos:Pos}{e:Expr}:SE X.e p (eval (.Call (.Attribute o name apos) [.Call (.Name r pr) [e] [] cpos] [] pos) env) (xk ev o name apos pos r pr e cpos loc p.st):=by
 intro k out hc ho Q E kQ
 obtain⟨hm,hc⟩:=ce hc ho
 refine iO hm ((he o loc p R F).go hc ho λ v q a m0 hv hk pl=>?_)
 obtain⟨hext,hk⟩:=ce hk ho
 refine xc (X:=X) m0.rep hv (Ct hext) ?_
 refine ik rfl (λ h=>j4 .extend) (sj he m0.rep (F.keepE m0 R) _ out hk ho _ E λ I l xs Sta q₁ q2 es st m1 e2 V hk2=>?_)
 subst e2
 obtain⟨⟨j,ds⟩,hr,hk3⟩:=bX hk2 ho
 obtain⟨hsm,hk4⟩:=ni hk3 ho
 obtain⟨e,hj⟩:=aT (P:=qw q₁.st a) kC hr
 have R1:X.rep q₁:=m1.rep
 have hst:q2.st=q₁.st:=V.g.st
 have hrho:q2.ρ=q₁.ρ:=V.g.rho
 exact rq (X:=X.rv I) (V.g.rep R1 V.hn) hh (e▸b8.mono (gk (X:=X) m1 hv) (V.g.cfg V.hn)) (hst.symm▸hj) V.rv V.st0 (V.hi.mono (V.g.cfg V.hn)) (.inr wE) wE (aA (cb (c8 hsm) V.len) (by decide)) (λ h=>V.hu (.inl ⟨j,_,hj,.inl (hrho▸h)⟩)) _ E λ v q3 m3 e3 hv3=>
  kQ v q3 _ _ (dY m0 (dY m1 (V.g.via R1 V.hn (λ a h=>.inr h) m3))) (e3.trans (by rw[hst])) (b8.mono hv3 (dM λ _ h=>.inl h)) hk4
theorem zO{x:Value}{Tx:String}{b1 b2:Bool}(h1:Answers (λ s=>s.TypeIs x Tx) x (.type "tuple") b1)(h2:Answers (λ s=>s.TypeIs x Tx) x (.type "list") b2):AnswersAll (λ s=>s.TypeIs x Tx) x [.type "tuple",.type "list"] [b1,b2]:=⟨h1,h2,trivial⟩
theorem Gs(hv:X.den p v d){s:Shared}(hs:∀a o,p.s.heap.get? a=some o→s.heap.get? a=some o){tp:Addr}(ht:s.heap.get? tp=some {cls:= .type "tuple",data:= .seq #[.type "tuple",.type "list"]}){Q:VS}{E:VS}:b6 (λ b=>(∀tk,Q (.bool b) {s with toks:=tk})→wpAny X.m X.A (call (.builtin "isinstance") [v,.ref tp]) Q E s) (Iw d):=by
 have mt:=fQ .tuple
 have ml:=fQ .list
 induction hv using b8.casesOn with
 |none=>exact IsiPair.tupleOf (cs:=[.type "tuple",.type "list"]) (Tx:= "NoneType") (zO (.of_false_none (fM _ .tuple (by decide)) mt (iG .tuple)) (.of_false_none (fM _ .list (by decide)) ml (iG .list))) rfl ht
 |bool x=>exact IsiPair.tupleOf (cs:=[.type "tuple",.type "list"]) (Tx:= "bool") (zO (.of_false_bool (fM _ .tuple (by decide)) mt (fA .bool .tuple)) (.of_false_bool (fM _ .list (by decide)) ml (fA .bool .list))) rfl ht
 |int i t=>exact IsiPair.tupleOf (cs:=[.type "tuple",.type "list"]) (Tx:= "int") (zO (.of_false_int (fM _ .tuple (by decide)) mt (fA .int .tuple)) (.of_false_int (fM _ .list (by decide)) ml (fA .int .list))) rfl ht
 |str i t=>exact IsiPair.tupleOf (cs:=[.type "tuple",.type "list"]) (Tx:= "str") (zO (.of_false_str (fM _ .tuple (by decide)) mt (fA .str .tuple)) (.of_false_str (fM _ .list (by decide)) ml (fA .str .list))) rfl ht
 |tup ho hc hd hu hi=>exact IsiPair.tupleOf (cs:=[.type "tuple",.type "list"]) (Tx:= "tuple") (zO (.of_true mt (fA .tuple .tuple)) (.of_false_tuple (fM _ .list (by decide)) ml (fA .tuple .list))) ⟨_,hs _ _ ho,hc⟩ ht
 |lst ho hc hd hu hi=>exact IsiPair.tupleOf (cs:=[.type "tuple",.type "list"]) (Tx:= "list") (zO (.of_false_list (fM _ .tuple (by decide)) mt (fA .list .tuple)) (.of_true ml (fA .list .list))) ⟨_,hs _ _ ho,hc⟩ ht
 |_=>exact ag
theorem xK{vs:List Value}{td:List D}(hvs:X.denL p vs td):b6 (λ _=>vs=[.type "tuple",.type "list"]) (Ah td):=
 lq (P:=λ vs _=>vs=[.type "tuple",.type "list"]) hvs λ v u a b ha hb=>.cond λ h=>by
  obtain⟨h1,h2⟩:=(Bool.and_eq_true _ _).mp h
  exact gO ha h1▸gO hb h2▸rfl
theorem Gu(he:HE X env ev)(R:X.rep p)(F:ax X p env loc){x:Str}{px tp:Pos}{a:Expr}{ts:List Expr}{n:Nat}:SE X.e p (eval (.Call (.Name x px) [a,.Tuple ts n tp] [] pos) env) (Ix ev x px a ts loc p.st):=by
 intro k out hc ho Q E kQ
 obtain⟨hst,hc⟩:=cY hc ho
 refine wpAny_Call_Name_kw ((he _ loc p R F).go hc ho λ v q d m hv hk=>?_)
 obtain⟨hi,hk⟩:=ce hk ho
 obtain rfl:=Co hv hi
 refine callWith_of (P:=λ _=>True) (by rw[cx hst,cK,cx rfl,cK];rfl) (λ h _=>⟨_,.inr (.inl rfl),yP .isinstance⟩) ?_
 rw[cx hst,cK,cx rfl,cK]
 refine evalArgs_plain (spliced_cons ((he a loc q m.rep (F.keepE m R)).go hk ho λ av q1 d m1 hav hk1=>spliced_cons ?_))
 rw[arm_eval_Tuple]
 have M:=dY m m1
 refine aa (aX (aa (ir (X:=X) (λ e q R F=>he e loc q R F) ts q1 m1.rep (F.keepE M R) _ out hk1 ho _ E λ vs q2 td st m2 e hvs hk2=>?_)))
 subst e
 obtain⟨_,h1,hk3⟩:=bX hk2 ho
 obtain⟨b,hb,hk4⟩:=bX hk3 ho
 obtain rfl:=aT (P:=λ _=>vs=[.type "tuple",.type "list"]) (xK hvs) h1
 exact wpAny_newObj_type (ak ⟨trivial,aT (P:=λ b=>(∀tk,Q (.bool b) _)→_) (Gs (X:=X.e) (gk m2 hav) (λ a o ho=>ah _ ho) (Heap.get?_push_size _ rfl)) hb λ tk=>
  kQ (.bool b) ⟨_,q2.ρ,q2.st⟩ (.bool b) q2.st (dY M (dY m2 ((cu.push q2 {cls:= .type "tuple",data:= .seq #[.type "tuple",.type "list"]} tk).mv0 m2.rep))) rfl (.bool b) hk4⟩) (by size_fits)
end
end
section
open PySem.Spec
noncomputable def vF(x:Str):List Str→List Str
 |[]=>[x]
 |y::r=>match ltCps y.cps.toList x.cps.toList with
  |true=>y::vF x r
  |false=>x::y::r
noncomputable def jF:List Str→List Str
 |[]=>[]
 |x::r=>vF x (jF r)
theorem J4(a b:List Nat):ltCps a b=true→ltCps b a=false:=by
 rw[ltCps_eq,ltCps_eq]
 intro h
 have h1:a<b:=bP h
 exact bB λ h2=>absurd (List.lt_trans h1 h2) (List.lt_irrefl a)
theorem lR(x:Str):∀l,(vF x l).Perm (x::l)
 |[]=>.refl _
 |y::r=>by
  unfold vF;split
  ·exact((lR x r).cons y).trans (.swap _ _ _)
  ·exact .refl _
theorem gY:∀l,(jF l).Perm l
 |[]=>.refl _
 |x::r=>(lR x _).trans ((gY r).cons x)
abbrev D2(l:List Str):Prop:=l.Pairwise (λ a b=>ltCps b.cps.toList a.cps.toList=false)
theorem yy{a b c:List Nat}(h1:ltCps b a=false)(h2:ltCps c b=false):ltCps c a=false:=by
 rw[ltCps_eq]at*
 have h1:=of_decide_eq_false h1
 have h2:=of_decide_eq_false h2
 refine bB λ h=>?_
 have h1':a≤b:=h1
 have h2':b≤c:=h2
 exact absurd (List.le_trans h1' h2') (by intro h3;exact h3 h)
theorem n7(x:Str):∀l,D2 l→D2 (vF x l)
 |[],_=>by simp[vF]
 |y::r,h=>by
  obtain⟨h1,h2⟩:=List.pairwise_cons.mp h
  unfold vF;split
  ·rename_i hlt
   refine List.pairwise_cons.mpr ⟨λ z hz=>?_,n7 x r h2⟩
   rcases aJ.mp ((lR x r).mem_iff.mp hz)with rfl|hz
   ·exact J4 _ _ hlt
   ·exact h1 z hz
  ·rename_i hlt
   refine List.pairwise_cons.mpr ⟨λ z hz=>?_,h⟩
   rcases aJ.mp hz with rfl|hz
   ·exact hlt
   ·exact yy hlt (h1 z hz)
theorem l7:∀l,D2 (jF l)
 |[]=>.nil
 |x::r=>n7 x _ (l7 r)
theorem BQ{a b:Str}(h1:ltCps b.cps.toList a.cps.toList=false)(h2:ltCps a.cps.toList b.cps.toList=false):a=b:=by
 rw[ltCps_eq]at*
 have h1:a.cps.toList≤b.cps.toList:=of_decide_eq_false h1
 have h2:b.cps.toList≤a.cps.toList:=of_decide_eq_false h2
 have:=List.le_antisymm h1 h2
 cases a;cases b
 exact ae _ (Array.toList_inj.mp this)
theorem C6{l l':List Str}(hp:l'.Perm l)(hs:D2 l'):l'=jF l:=
 List.Perm.eq_of_pairwise (λ _ _ _ _ a b=>BQ a b) hs (l7 l) (hp.trans (gY l).symm)
theorem Fo{vs:List Value}{ss:List Str}(hS:StrsAre vs ss){xs:Array Keyed}(hp:xs.Perm (pairsOf vs))(hs:SortedToK strKind xs (pairsOf vs).size):StrsAre (xs.map (·.2)).toList (jF ss):=by
 have hl:xs.toList.Perm (vs.zip vs):=by rw[←pairsOf_toList];exact Array.perm_iff_toList_perm.mp hp
 have hmem:∀p,p∈xs.toList→p.1=p.2∧p.1∈vs:=λ p hp'=>mem_zip_self (hl.mem_iff.mp hp')
 have e:(xs.map (·.2)).toList=xs.toList.map (·.1):=by
  rw[Array.toList_map];exact List.map_congr_left λ p hp'=>(hmem p hp').1.symm
 have h1:=strsAre_map (xs.toList.map (·.1)) (by
  intro v hv
  obtain⟨p,hp',rfl⟩:=aS.mp hv
  exact hS.all _ (hmem p hp').2)
 rw[e]
 rw[fz]at h1
 have h2:=hl.map (λ p=>strOf p.1)
 have e2:(vs.zip vs).map (λ p=>strOf p.1)=ss:=by
  have:(vs.zip vs).map (λ p=>strOf p.1)=((vs.zip vs).map Prod.fst).map strOf:=by rw[fz];rfl
  rw[this,List.map_fst_zip (aq _),hS.strs]
 rw[e2]at h2
 have h3:D2 (xs.toList.map (λ p=>strOf p.1)):=by
  show List.Pairwise _ _
  rw[List.pairwise_iff_getElem]
  intro i j hi hj hij
  have hi':i<xs.size:=by simpa using hi
  have hj':j<xs.size:=by simpa using hj
  have h1:=hs i j (bJ hij) (by rw[←hp.size_eq];exact hj')
  obtain⟨x,t,ex⟩:=hS.all _ (hmem xs[i] (by simp)).2
  obtain⟨y,u,ey⟩:=hS.all _ (hmem xs[j] (by simp)).2
  rw[KK_str hi' (x:=x) (t:=t) (q:=xs[i].2) (Prod.ext ex rfl),KK_str hj' (x:=y) (t:=u) (q:=xs[j].2) (Prod.ext ey rfl)]at h1
  change decide (y.cps.toList<x.cps.toList)=false at h1
  simp only[List.getElem_map,Array.getElem_toList]
  rw[show strOf xs[i].1=x by rw[ex];rfl,show strOf xs[j].1=y by rw[ey];rfl,ltCps_eq]
  exact h1
 rw[←C6 h2 h3]
 exact h1
section
variable{X:Cx}{p:Pt}{v u:Value}{ds:List D}
theorem mr{c:dW}:∀{ns:List Int} {vs:List Value},bH X.prog X.w c vs (ns.map .int)→IntsAre vs ns
 |[],_,h=>by cases h;exact .nil
 |n::ns,_,h=>by
  induction h using denL_cons with
  |cons h r=>cases h;exact .cons _ _ (mr r)
theorem tF{c:dW}:∀{ns:List Int} {vs:List Value},IntsAre vs ns→bH X.prog X.w c vs (ns.map .int)
 |_,_,.nil=>.nil
 |_,_,.cons n t r=>.cons (.int n t) (tF r)
theorem tE{c:dW}:∀{ss:List Str} {vs:List Value},StrsAre vs ss→bH X.prog X.w c vs (ss.map .str)
 |_,_,.nil=>.nil
 |_,_,.cons y t r=>.cons (.str y t) (tE r)
theorem qP(R:X.rep p){s':Shared}{S:Addr}{out:Array Value}{e:Nat}(hk:∀b o,p.s.heap.get? b=some o→s'.heap.get? b=some o)(hz:p.s.heap.objs.size≤s'.heap.objs.size)(hg:s'.gens=p.s.gens)(hd:s'.drawn=p.s.drawn)(hos:s'.os=p.s.os)(hS:p.s.heap.objs.size≤S)(ho:s'.heap.get? S=some (seqObj "list" out e))(hi:X.denL ⟨s',p.ρ,p.st⟩ out.toList ds):X.mv p ⟨s',p.ρ,p.st⟩∧X.den ⟨s',p.ρ,p.st⟩ (.ref S) (.lst ds):=by
 refine⟨Mv.grow R hk hz hg hd hos,.lst (hn:=rfl) ho rfl rfl ?_ hi⟩
 rintro(h|h)
 ·exact absurd (R.footLt h) (aN.mpr hS)
 ·exact absurd (R.priv _ h).1 (aN.mpr hS)
theorem pe(R:X.rep p){ns:List Int}(hv:X.den p v (.lst (ns.map .int)))(h64:ns.length<64):GA X X.den p (call (.builtin "sorted") [v]) (.lst ((sortI ns).map .int)) p.st:=by
 intro Q E kQ
 cases hv with
 | @lst a o xs n _ _ ho hc hd hu hi=>
  have hI:=mr hi
  have hl:xs.toList.length=ns.length:=by rw[hi.length,aG]
  refine cj (sorted_ints (vs:=xs.toList) (l:=a) ⟨o,ho,hc,n,by simpa using hd⟩ hI (by rw[hl];exact h64) λ out ns' a1 a2 a3 hz=>?_)
  rw[eq_sortI a2 a3]at a1
  obtain⟨e,he⟩:=sortedAll_at p.s.heap xs.toList out
  have M:=qP (ds:=(sortI ns).map .int) (s':={p.s with heap:=sortedAll p.s.heap xs.toList out}) R (λ _ _=>sortedAll_old) hz rfl rfl rfl (bT _) he (tF a1)
  exact kQ _ _ M.1 rfl M.2
end
end
section
noncomputable def gX:List (D×D)→Option (List Str)
 |[]=>some []
 |p::r=>p.1.str?.bind λ x=>(gX r).map (x::·)
section
variable{X:Cx}{p:Pt}{v u:Value}{ds:List D}
theorem ur{c:dW}{es:List (D×D)}{kvs:List (cv×Value)}{ss:List Str}(h:gX es=some ss)(hd:dg X.prog X.w c kvs es):kvs.map (·.1)=ss.map .inr:=by
 refine aT (P:=λ ss:List Str=>kvs.map (·.1)=ss.map .inr) ?_ h
 clear h
 exact hd.ind (motive:=λ kvs es _=>b6 (λ ss:List Str=>kvs.map (·.1)=ss.map .inr) (gX es)) rfl λ {k v kvs d es} h1 hr ih=>by
  induction k using Sum.casesOn with
  |inl i=>exact ag
  |inr x=>exact .map (ih.mono λ ss e=>ae (Sum.inr x::·) e)
theorem qE(ss:List Str):∀vs:List Value,vs.length=ss.length→(∀(j:Nat) (v:Value) (x:Str),vs[j]?=some v→ss[j]?=some x→∃t,v= .str x t)→StrsAre vs ss:=by
 induction ss with
 |nil=>exact λ vs h _=>List.length_eq_zero_iff.mp h▸.nil
 |cons x ss ih=>
  intro vs h hh
  induction vs using List.casesOn with
  |nil=>exact nomatch h
  |cons v vs=>
   obtain⟨t,rfl⟩:=hh 0 v x rfl rfl
   exact .cons x t (ih vs (Nat.succ.inj h) λ j v y a b=>hh (j+1) v y a b)
theorem pc(hh:X.A.handled=none)(R:X.rep p){es:List (D×D)}{ss:List Str}(hv:X.den p v (.dct es))(hk:gX es=some ss)(h64:ss.length<64):GA X X.den p (call (.builtin "sorted") [v]) (.lst ((jF ss).map .str)) p.st:=by
 intro Q E kQ
 cases hv with
 | @dct a kvs _ hm hu hi lo=>
  obtain⟨ep,hm⟩:=hm.dictAt
  have hkeys:=ur hk hi
  have hlen:kvs.length=ss.length:=(aG ..).symm.trans ((ae List.length hkeys).trans (aG ..))
  refine cj (call_function_entry kind_sorted plain_sorted entry_sorted (args_sorted1 _) ?_)
  unfold Builtin.«sorted»
  refine aa (m:=checkCount "sorted" 1 1 _) (ak ?_)
  refine aa (cj (kdu_collect (A:=X.A.in1) (kdl_dict (knd:=bV X.prog X.w) (kvs:=kvs) (ep:=ep) lo) hh hm (by rw[sizeLine_eq];omega) λ h' tk acc hkp hacc hz1=>?_))
  have hl:acc.toList.length=ss.length:=by rw[Array.length_toList,←hlen];exact hacc.1
  have hS:StrsAre acc.toList ss:=qE ss acc.toList hl λ j v x hj hx=>by
   obtain⟨k,y,hky,hkv⟩:=hacc.2 j v (by rw[←Array.getElem?_toList];exact hj)
   have:(kvs.map (·.1))[j]?=(ss.map Sum.inr)[j]?:=by rw[hkeys]
   rw[cJ,cJ,hky,hx]at this
   cases this
   exact Value.isStrOf_shape hkv
  refine aa (wpAny_newList ?_ (by rw[hl,sizeLine_eq];omega))
  have hoL:(h'.push (seqObj "list" acc.toList.toArray 0)).get? h'.objs.size=some (seqObj "list" acc.toList.toArray 0):=Heap.get?_push_size _ rfl
  refine aa (aV (wpAny_call_entry (s:={p.s with heap:=h'.push (seqObj "list" acc.toList.toArray 0),toks:=tk}) slot_list_sort ⟨_,hoL,rfl⟩ entry_list_sort
   (list_sort_treeK strKind_oneLt hoL hS.keysOf (λ v₁ v₂ rest e=>keyKind_strs (by rw[←e];exact hS)) (by rw[hl];exact h64) λ st' hp hs=>⟨_,rfl,?_⟩) (args_list_sort _)))
  refine ak ⟨_,rfl,λ hz=>?_⟩
  have hout:=Fo hS hp hs
  obtain⟨e,he⟩:=sortedHeap_at (out:=(arrOf st').map (·.2)) hoL
  have hsz:p.s.heap.objs.size≤h'.objs.size:=hz1
  have keep:∀b o,p.s.heap.get? b=some o→(sortedHeap (h'.push (seqObj "list" acc.toList.toArray 0)) h'.objs.size acc.toList ((arrOf st').map (·.2))).get? b=some o:=λ b o hb=>by
   have:=hkp b o hb
   have hlt:=az this
   rw[sortedHeap_old (aL hlt) (by rw[size_push'];exact Nat.lt_succ_of_lt hlt),Heap.get?_push_ne _ _ _ (aL hlt)]
   exact this
  have M:=qP (ds:=(jF ss).map .str) (s':={p.s with heap:=sortedHeap (h'.push (seqObj "list" acc.toList.toArray 0)) h'.objs.size acc.toList ((arrOf st').map (·.2)),toks:=tk}) R keep hz rfl rfl rfl hsz he (tE hout)
  exact kQ _ _ M.1 rfl M.2
end
end
section
open PySem.Spec
variable{α:Type}{n:Nat}{cmp:Nat→Nat→Bool}{p:Array Nat}
noncomputable def lK{α:Type}(cmp:Nat→Nat→Bool):KasT α→α
 | .ret a=>a
 | .ask i j k=>lK cmp (k (cmp i j))
inductive eE{α:Type}(n:Nat)(R:α→Prop):KasT α→Prop
 |ret {a:α} (h:R a):eE n R (.ret a)
 |ask {i j:Nat} {k:Bool→KasT α} (hi:i<n) (hj:j<n) (hk:∀b,eE n R (k b)):eE n R (.ask i j k)
theorem eE.bind{β:Type}{R:α→Prop}{R':β→Prop}{t:KasT α}{f:α→KasT β}(h:eE n R t)(hf:∀a,R a→eE n R' (f a)):eE n R' (t.bind f):=by
 induction h with
 |ret h=>exact hf _ h
 |ask hi hj hk ih=>exact .ask hi hj ih
theorem eE.run{R:α→Prop}{t:KasT α}(h:eE n R t):R (lK cmp t):=by
 induction h with
 |ret h=>exact h
 |ask hi hj hk ih=>exact ih _
theorem eE.wp{R:α→Prop}{t:KasT α}{ask:Nat→Nat→(Bool→Shared→Prop)→Shared→Prop}{s:Shared}(h:eE n R t)(ha:∀i j C,i<n→j<n→C (cmp i j) s→ask i j C s){G:α→Shared→Prop}(hG:G (lK cmp t) s):t.kasWp ask G s:=by
 induction h with
 |ret h=>exact hG
 |ask hi hj hk ih=>exact ha _ _ _ hi hj (ih _ hG)
noncomputable def dq(n:Nat)(p:Array Nat):Prop:=p.Perm (List.toArray (List.range n))
theorem dq.size(h:dq n p):p.size=n:=by
 have:=h.size_eq;simpa using this
theorem dq.lt(h:dq n p)(h0:0<n)(i:Nat):p.getD i 0<n:=by
 by_cases hi:i<p.size
 ·have hm:p.getD i 0∈p:=by
   rw[Array.getD_eq_getD_getElem?,Array.getElem?_eq_getElem hi]
   exact Array.getElem_mem hi
  have:=(h.mem_iff).mp hm
  simpa using this
 ·rw[Array.getD_eq_getD_getElem?,Array.getElem?_eq_none (Nat.le_of_not_lt hi)]
  exact h0
theorem dq.rev(h:dq n p)(i j:Nat):dq n (kas_rev p i j):=(mirror_perm p i j _).trans h
theorem dq.bub(h:dq n p)(i j:Nat):dq n (bubble p i j):=(bubble_perm p i j).trans h
section
variable{n:Nat}
theorem uT(h0:0<n){p:Array Nat}(hp:dq n p):∀(f m:Nat),eE n (λ _=>True) (kas_asc p f m)
 |0,m=>.ret trivial
 |f+1,m=>.ask (hp.lt h0 _) (hp.lt h0 _) λ b=>by
  induction b using Bool.casesOn with
  |true=>exact .ret trivial
  |false=>exact uT h0 hp f (m+1)
theorem mY(h0:0<n):∀(f:Nat) (p:Array Nat) (m q:Nat),dq n p→eE n (λ r=>dq n r.1) (kas_desc f p m q)
 |0,p,m,q,hp=>.ret hp
 |f+1,p,m,q,hp=>.ask (hp.lt h0 _) (hp.lt h0 _) λ b=>by
  induction b using Bool.casesOn with
  |true=>
   rw[aZ rfl]
   split
   ·exact mY h0 f _ _ _ (hp.rev _ _)
   ·exact mY h0 f _ _ _ hp
  |false=>
   rw[aI (by decide)]
   refine .ask (hp.lt h0 _) (hp.lt h0 _) λ d=>?_
   induction d using Bool.casesOn with
   |true=>exact .ret hp
   |false=>exact mY h0 f _ _ _ hp
theorem sy(h0:0<n){m r:Nat}{p:Array Nat}(hp:dq n p):eE n (λ r=>dq n r.2) (kas_tail3 m r p):=
 (uT h0 (hp.rev 0 m) _ _).bind λ a _=>.ret (hp.rev 0 m)
theorem ma(h0:0<n){m r:Nat}{p:Array Nat}(hp:dq n p):eE n (λ r=>dq n r.2) (kas_descPart m r p):=
 (mY h0 _ _ _ _ hp).bind λ a ha=>by
  split
  ·exact sy h0 (dq.rev ha _ _)
  ·exact sy h0 ha
theorem Bj(h0:0<n){r:Nat}{p:Array Nat}(hp:dq n p):eE n (λ r=>dq n r.2) (kas_count r p):=
 (uT h0 hp _ _).bind λ a _=>by
  split
  ·exact .ret hp
  ·split
   ·refine .ask (hp.lt h0 _) (hp.lt h0 _) λ c=>?_
    induction c using Bool.casesOn with
    |true=>exact .ret hp
    |false=>exact ma h0 (hp.rev _ _)
   ·exact ma h0 hp
theorem nJ(h0:0<n){p:Array Nat}(hp:dq n p)(k:Nat):∀(f l r:Nat),eE n (λ _=>True) (kas_place p k f l r)
 |0,l,r=>.ret trivial
 |f+1,l,r=>by
  unfold kas_place
  split
  ·exact .ret trivial
  ·refine .ask (hp.lt h0 _) (hp.lt h0 _) λ c=>?_
   induction c using Bool.casesOn with
   |true=>exact nJ h0 hp k f _ _
   |false=>exact nJ h0 hp k f _ _
theorem Bk(h0:0<n):∀(f:Nat) (p:Array Nat) (k:Nat),dq n p→eE n (dq n) (kas_bin f p k)
 |0,p,k,hp=>.ret hp
 |f+1,p,k,hp=>(nJ h0 hp k _ _ _).bind λ l _=>Bk h0 f _ _ (hp.bub _ _)
theorem mX(h0:0<n):eE n (dq n) (kas_sort n):=
 (Bj h0 (Array.Perm.refl _)).bind λ r hr=>by
  split
  ·exact Bk h0 _ _ _ hr
  ·exact .ret hr
end
abbrev mL:=Int×Int×Int
noncomputable def eI(t:mL):D:= .tup [.int t.1,.int t.2.1,.int t.2.2]
noncomputable def Il(x y:mL):Bool:=match decide (x.1=y.1)with
 |true=>(match decide (x.2.1=y.2.1)with
  |true=>(match decide (x.2.2=y.2.2)with
   |true=>false
   |false=>decide (x.2.2<y.2.2))
  |false=>decide (x.2.1<y.2.1))
 |false=>decide (x.1<y.1)
noncomputable def fD(ts:List mL):List mL:=match Nat.blt (aw ts) 2 with
 |true=>ts
 |false=>(lK (λ i j=>Il (ts.getD i (0,0,0)) (ts.getD j (0,0,0))) (kas_sort (aw ts))).toList.map λ i=>ts.getD i (0,0,0)
theorem uv{ts:List mL}{t:mL}(h:t∈fD ts):t∈ts:=by
 unfold fD at h
 split at h
 ·exact h
 ·rename_i hb
  have h2:2≤ts.length:=by
   rw[bf]at hb
   have:¬ts.length<2:=λ h=>by rw[bp.mpr h]at hb;cases hb
   omega
  obtain⟨i,hi,rfl⟩:=aS.mp h
  rw[bf]at hi
  have:=(mX (n:=ts.length) (by omega)).run (cmp:=λ i j=>Il (ts.getD i (0,0,0)) (ts.getD j (0,0,0)))
  have hlt:i<ts.length:=by
   have:=(this.mem_iff (a:=i)).mp (by simpa using hi)
   simpa using this
  rw[List.getD_eq_getElem?_getD,bz hlt]
  exact List.getElem_mem hlt
end
section
open PySem.Spec
variable{U:Addr→Prop}{h:Heap}{vs:List Value}{ts:List mL}{Q:Bool→Shared→Prop}{n:Nat}
inductive cH(U:Addr→Prop)(h:Heap):List Value→List mL→Prop
 |nil:cH U h [] []
 |cons {a:Addr} {o:Obj} {n:Nat} {x y z:Int} {t u v:Tok} {vs:List Value} {ts:List mL} (ho:h.get? a=some o) (hc:o.cls= .type "tuple") (hd:o.data= .seq #[.int x t,.int y u,.int z v] n) (hu:¬U a) (r:cH U h vs ts):cH U h (.ref a::vs) ((x,y,z)::ts)
theorem cH.keep{h':Heap}(k:∀b o,h.get? b=some o→h'.get? b=some o)(t:cH U h vs ts):cH U h' vs ts:=by
 induction t with
 |nil=>exact .nil
 |cons ho hc hd hu r ih=>exact .cons (k _ _ ho) hc hd hu ih
theorem cH.length(t:cH U h vs ts):vs.length=ts.length:=by
 induction t with
 |nil=>rfl
 |cons ho hc hd hu r ih=>simp[ih]
theorem cH.get(t:cH U h vs ts):∀i,i<ts.length→∃a o n tk uk vk,vs.getD i Value.none= .ref a∧h.get? a=some o∧o.data= .seq #[.int (ts.getD i (0,0,0)).1 tk,.int (ts.getD i (0,0,0)).2.1 uk,.int (ts.getD i (0,0,0)).2.2 vk] n:=by
 induction t with
 |nil=>intro i hi;simp at hi
 | @cons a o n x y z t u v vs ts ho hc hd hu r ih=>
  intro i hi
  induction i using Nat.casesAuxOn with
  |zero=>exact⟨a,o,n,t,u,v,rfl,ho,hd⟩
  |succ i=>simpa using ih i (by simpa using hi)
theorem cH.firsts(t:cH U h vs ts):∃fs,KatTups h vs fs∧fs.length=ts.length∧∀v∈fs,∃i t,v=Value.int i t:=by
 induction t with
 |nil=>exact⟨[],.nil,rfl,by simp⟩
 | @cons a o n x y z t u v vs ts ho hc hd hu r ih=>
  obtain⟨fs,k,l,f⟩:=ih
  refine⟨.int x t::fs,.cons ho hc hd rfl k,by simp[l],λ w hw=>?_⟩
  rcases aJ.mp hw with rfl|hw
  ·exact⟨_,_,rfl⟩
  ·exact f w hw
section
variable{prog:Program}{w:World}{A:Around}{E:VS}{s:Shared}
theorem oq{a b:Int}{t u:Tok}{E:VS}(h:Q (decide (a=b)) s):wpAny (model prog w) A (eqBool (.int a t) (.int b u)) Q E s:=
 (intKind prog w).eqBool (a:=a) (b:=b) (by simp[intKind,Value.isInt]) (by simp[intKind,Value.isInt]) h
theorem Je{x y:Addr}{ox oy:Obj}{k:Nat}{a b:mL}{t1 t2 t3 u1 u2 u3:Tok}(hx:s.heap.get? x=some ox)(dx:ox.data= .seq #[.int a.1 t1,.int a.2.1 t2,.int a.2.2 t3] n)(hy:s.heap.get? y=some oy)(dy:oy.data= .seq #[.int b.1 u1,.int b.2.1 u2,.int b.2.2 u3] k)(h:Q (Il a b) s):wpAny (model prog w) A (keyLt' (tuples' true) (.ref x) (.ref y)) Q E s:=by
 refine kat_lt hx dx hy dy ?_
 refine kat_cons (oq ?_)
 unfold Il at h
 induction h1:decide (a.1=b.1)using Bool.casesOn with
 |false=>
  rw[h1]at h
  refine kat_no ?_
  exact oneLt_int h
 |true=>
  rw[h1]at h
  refine kat_yes (kat_cons (oq ?_))
  induction h2:decide (a.2.1=b.2.1)using Bool.casesOn with
  |false=>
   dsimp only at h
   rw[h2]at h
   refine kat_no (kat_one _ _ ?_)
   exact PySem.P.lt_int h
  |true=>
   dsimp only at h
   rw[h2]at h
   refine kat_yes (kat_cons (oq ?_))
   induction h3:decide (a.2.2=b.2.2)using Bool.casesOn with
   |false=>
    dsimp only at h
    rw[h3]at h
    refine kat_no (kat_one _ _ ?_)
    exact PySem.P.lt_int h
   |true=>
    dsimp only at h
    rw[h3]at h
    exact kat_yes (kat_nil h)
theorem py{h0:Heap}{a:Addr}{P:Fin→Shared→Prop}(T:cH U h0 vs ts)(hk:∀b o,h0.get? b=some o→s.heap.get? b=some o)(ha0:∀o,h0.get? a≠some o)(ho:s.heap.get? a=some (seqObj "list" vs.toArray n))(h64:vs.length<64)(h:∀out:Array Value,cH U h0 out.toList (fD ts)→P (.done (.ret .none)) {s with heap:=sortedHeap s.heap a vs out}):
  wpAny (model prog w) A (Builtin.«list.sort» ⟨[.ref a],[]⟩) P E s:=by
 rw[list_sort_plain]
 have ha:a<s.heap.objs.size:=az ho
 refine aa (listItems_at ho rfl ?_)
 refine aa (listUpdate_at ho rfl ?_ (by rw[List.size_toArray,sizeLine_eq];omega) (bo _))
 obtain⟨e1,ho1⟩:∃e1,(s.heap.update a (Obj.mapSeq λ _=> #[])).get? a=some (seqObj "list" #[] e1):=⟨_,get?_update_seq ho (λ _=> #[])⟩
 refine aa (seqEpoch_at ho1 rfl ?_)
 refine aa (wpAny_newTuple ?_ (by show vs.length≤_;rw[sizeLine_eq];omega))
 refine aa (wpAny_newList ?_ (bo _))
 refine aV ?_
 have ho6:(((s.heap.update a (Obj.mapSeq λ _=> #[])).push (seqObj "tuple" vs.toArray 0)).push (seqObj "list" #[] 0)).get? a=some (seqObj "list" #[] e1):=by
  rw[Heap.get?_push_ne _ _ _ (by rw[size_push',Heap.size_update];exact aL (Nat.lt_succ_of_lt ha)),Heap.get?_push_ne _ _ _ (by rw[Heap.size_update];exact aL ha)]
  exact ho1
 show wpAny (model prog w) A _ P E {s with heap:=((s.heap.update a (Obj.mapSeq λ _=> #[])).push (seqObj "tuple" vs.toArray 0)).push (seqObj "list" #[] 0)}
 have T6:cH U (((s.heap.update a (Obj.mapSeq λ _=> #[])).push (seqObj "tuple" vs.toArray 0)).push (seqObj "list" #[] 0)) vs ts:=T.keep λ b o hb=>by
  have hba:b≠a:=λ e=>ha0 o (e▸hb)
  exact ah _ (ah _ ((bt _ _ (Ne.symm hba)).trans (hk b o hb)))
 dsimp only
 have hsz:vs.toArray.size=vs.length:=by simp
 have hlen:=T.length
 by_cases h2:vs.toArray.size<2
 ·rw[aZ h2,aZ h2]
  refine aa (ak ?_)
  rw[StateT.run_pure]
  refine aa (ak ?_)
  dsimp only
  refine aa (seqEpoch_at ho6 rfl ?_)
  refine aa (listUpdate_at ho6 rfl ?_ (bo _) (by rw[Array.size_map];show(pairsOf vs).size≤_;rw[pairsOf_size,sizeLine_eq];omega))
  simp only[bne_self_eq_false,Bool.false_eq_true,if_false]
  have e2:((SortSt.mk' general' (vs.toArray.zip vs.toArray) #[] 7 none)|>arrOf).map (·.2)=vs.toArray:=by
   show(vs.toArray.zip vs.toArray).map (·.2)=vs.toArray
   apply Array.ext'
   rw[Array.toList_map,Array.toList_zip]
   exact List.map_snd_zip (aq _)
  have e3:fD ts=ts:=by
   unfold fD
   rw[bf,bp.mpr (by omega)]
  have fin:=h vs.toArray (by rw[e3];exact T)
  rw[←e2]at fin
  exact ak fin
 ·rw[aI h2,aI h2]
  obtain⟨fs,kt,kl,kf⟩:=T6.firsts
  refine aa (kat_kind (T:= .type "int") (s:={s with heap:=((s.heap.update a (Obj.mapSeq λ _=> #[])).push (seqObj "tuple" vs.toArray 0)).push (seqObj "list" #[] 0)}) kt (by omega) (λ v hv=>by obtain⟨i,t,rfl⟩:=kf v hv;exact Looks.of_pure rfl) (by decide) ?_)
  rw[show(Value.type "int" !=Value.type "tuple")=true by decide]
  have run:(kas_sort vs.length).kasWp (kas_ask prog w A (tuples' true) vs) (λ p' s'=>s'={s with heap:=((s.heap.update a (Obj.mapSeq λ _=> #[])).push (seqObj "tuple" vs.toArray 0)).push (seqObj "list" #[] 0)}∧p'=lK (λ i j=>Il (ts.getD i (0,0,0)) (ts.getD j (0,0,0))) (kas_sort vs.length))
    {s with heap:=((s.heap.update a (Obj.mapSeq λ _=> #[])).push (seqObj "tuple" vs.toArray 0)).push (seqObj "list" #[] 0)}:=by
   refine(mX (n:=vs.length) (by omega)).wp (cmp:=λ i j=>Il (ts.getD i (0,0,0)) (ts.getD j (0,0,0))) (λ i j C hi hj hC=>?_) ⟨rfl,rfl⟩
   obtain⟨x,ox,nx,t1,t2,t3,ex,hx,dx⟩:=T6.get i (by omega)
   obtain⟨y,oy,ny,u1,u2,u3,ey,hy,dy⟩:=T6.get j (by omega)
   unfold kas_ask
   rw[ex,ey]
   exact Je hx dx hy dy hC
  refine aa (bW (kat_run (Q:=λ st' s'=>∃p:Array Nat,p.size=vs.length∧arrOf st'=p.map (kas_item (vs.toArray.zip vs.toArray))∧failedOf st'=none∧s'={s with heap:=((s.heap.update a (Obj.mapSeq λ _=> #[])).push (seqObj "tuple" vs.toArray 0)).push (seqObj "list" #[] 0)}∧p=lK (λ i j=>Il (ts.getD i (0,0,0)) (ts.getD j (0,0,0))) (kas_sort vs.length))
   rfl (by omega) h64 (λ p' st' s' a1 a2 a3 a4=>⟨p',a1,a2,a3,a4⟩) run) ?_ λ _ _ e=>e)
  rintro⟨⟨⟩,st'⟩ s' ⟨p,hp,har,hf,rfl,hpr⟩
  dsimp only
  have hout:=kat_snds rfl har
  have hsz2:(List.toArray (p.toList.map λ i=>vs.getD i Value.none)).size=vs.length:=by rw[List.size_toArray,aG,Array.length_toList,hp]
  rw[hout]
  refine aa (seqEpoch_at ho6 rfl ?_)
  refine aa (listUpdate_at ho6 rfl ?_ (bo _) (ad (aM hsz2) (by rw[sizeLine_eq];omega)))
  rw[hf]
  simp only[bne_self_eq_false,Bool.false_eq_true,if_false]
  refine ak (h (List.toArray (p.toList.map λ i=>vs.getD i Value.none)) ?_)
  have e3:fD ts=p.toList.map λ i=>ts.getD i (0,0,0):=by
   unfold fD
   have:Nat.blt (aw ts) 2=false:=by
    rw[bf]
    induction hb:Nat.blt ts.length 2 using Bool.casesOn with
    |false=>rfl
    |true=>have:=bp.mp hb;omega
   rw[this,bf,hpr,hlen]
  rw[e3]
  have good:dq vs.length p:=by rw[hpr];exact(mX (by omega)).run
  have hlt:∀i∈p.toList,i<ts.length:=λ i hi=>by
   have:=(good.mem_iff (a:=i)).mp (by simpa using hi)
   have:i<vs.length:=by simpa using this
   omega
  clear hout hsz2 e3 good hpr har hf hp run
  revert hlt
  generalize p.toList=l
  intro hlt
  show cH U h0 (l.map λ i=>vs.getD i Value.none) _
  induction l with
  |nil=>exact .nil
  |cons i l ih=>
   rw[List.map_cons,List.map_cons]
   obtain⟨x,ox,nx,t1,t2,t3,ex,hx,dx⟩:=T.get i (hlt i (.head _))
   have hcx:ox.cls= .type "tuple"∧¬U x:=by
    clear ih
    have:∀{vs:List Value} {ts:List mL},cH U h0 vs ts→∀(i:Nat) (x:Addr) (ox:Obj),vs.getD i Value.none= .ref x→h0.get? x=some ox→ox.cls= .type "tuple"∧¬U x:=by
     intro vs ts t
     induction t with
     |nil=>intro i x ox e;cases i<;>cases e
     | @cons a o n x y z t u v vs ts ho hc hd hu r ih=>
      intro i x' ox' e hx
      induction i using Nat.casesAuxOn with
      |zero=>
       have:Value.ref a=Value.ref x':=e
       cases this
       rw[ho]at hx;cases hx;exact⟨hc,hu⟩
      |succ i=>exact ih i x' ox' (by simpa using e) hx
    exact this T i x ox ex hx
   rw[ex]
   exact .cons hx hcx.1 dx hcx.2 (ih λ j hj=>hlt j (.tail _ hj))
end
end
section
variable{d:D}{P:Addr→Prop}
noncomputable def Mi:List D→Option mL
 |[a,b,c]=>a.int?.bind λ x=>b.int?.bind λ y=>c.int?.map λ z=>(x,y,z)
 |_=>none
noncomputable def Aq(d:D):Option mL:=d.tup?.bind Mi
abbrev As(d:D):Option Int:=d.int?
theorem EB{ds:List D}:b6 (λ t=>D.tup ds=eI t) (Mi ds):=by
 induction ds using List.casesOn with
 |nil=>exact ag
 |cons a r=>induction r using List.casesOn with
  |nil=>exact ag
  |cons b r=>induction r using List.casesOn with
   |nil=>exact ag
   |cons c r=>induction r using List.casesOn with
    |nil=>exact .bind (lQ.mono λ x e=>.bind (lQ.mono λ y e'=>.map (lQ.mono λ z e2=>e▸e'▸e2▸rfl)))
    |cons=>exact ag
theorem Ap{t:mL}(h:Aq d=some t):d=eI t:=by
 refine aT (P:=λ t=>d=eI t) ?_ h
 clear h
 induction d using D.casesOn with
 |tup ds=>exact EB
 |_=>exact ag
theorem Ar{t:Int}(h:As d=some t):d= .int t:=aT (P:=λ t=>d= .int t) lQ h
theorem nQ{α:Type}{f:D→Option α}{g:α→D}(hf:∀d a,f d=some a→d=g a):∀{ds:List D} {as:List α},cq f ds=some as→ds=as.map g
 |[],_,h=>by cases h;rfl
 |d::ds,_,h=>by
  obtain⟨y,s,hy,hs,rfl⟩:=lI h
  rw[List.map_cons,hf _ _ hy,nQ hf hs]
noncomputable def kh(a:D):Option D:=match a with
 | .dct es=>(match gX es with
  |some ss=>(match Nat.blt (aw ss) 64 with
   |true=>some (.lst ((jF ss).map .str))
   |false=>none)
  |none=>none)
 | .lst ds=>(match Nat.blt (aw ds) 64 with
  |true=>(match cq As ds with
   |some ns=>some (.lst ((sortI ns).map .int))
   |none=>(match cq Aq ds with
    |some ts=>some (.lst ((fD ts).map eI))
    |none=>none))
  |false=>none)
 |_=>none
section
variable{X:Cx}{p:Pt}{v u:Value}{ds:List D}{a d:D}
set_option tactic.hygienic true in
theorem un(R:dJ X.prog X.w X.h₁ P p){ts:List mL}:∀{vs:List Value},bH X.prog X.w (p.cfg P) vs (ts.map eI)→cH (p.U P) p.s.heap vs ts:=by
 induction ts with
 |nil=>exact λ h=>by cases h;exact .nil
 |cons t ts ih=>
  intro vs h
  obtain⟨x,y,z⟩:=t
  induction h using denL_cons with
  |cons h r=>
   induction h using denI_tup with
   |tup ho hc hd hu hi=>
    rename_i xs n
    obtain⟨l⟩:=xs
    change bH _ _ _ l _ at hi
    induction hi using denL_cons with
    |cons h1 r1=>induction r1 using denL_cons with
     |cons h2 r2=>induction r2 using denL_cons with
      |cons h3 r3=>
       cases r3
       induction h1 using denI_int with
       |int t1=>induction h2 using denI_int with
        |int t2=>induction h3 using denI_int with
         |int t3=>exact .cons ho hc hd hu (ih r)
theorem Hg{c:dW}{U:Addr→Prop}{h:Heap}(hk:∀b o,h.get? b=some o→¬U b→c.h.get? b=some o∧¬c.U b){vs:List Value}{ts:List mL}(t:cH U h vs ts):bH X.prog X.w c vs (ts.map eI):=by
 induction t with
 |nil=>exact .nil
 | @cons a o n x y z t u v vs ts ho hc hd hu r ih=>
  exact .cons (.tup (hk _ _ ho hu).1 hc hd (hk _ _ ho hu).2 (.cons (.int x t) (.cons (.int y u) (.cons (.int z v) .nil)))) ih
theorem P5{p:Pt}(s':Shared){b:Addr}(h:¬p.U P b):¬Pt.U P ⟨s',p.ρ,p.st⟩ b:=λ g=>h (by rcases g with g|g;exact .inl g;exact .inr g)
theorem FG(R:X.rep p){s':Shared}{S:Addr}{out:Array Value}{e:Nat}{ts:List mL}(hk:∀b o,p.s.heap.get? b=some o→s'.heap.get? b=some o)(hz:p.s.heap.objs.size≤s'.heap.objs.size)(hg:s'.gens=p.s.gens)(hd:s'.drawn=p.s.drawn)(hos:s'.os=p.s.os)(hS:p.s.heap.objs.size≤S)(ho:s'.heap.get? S=some (seqObj "list" out e))(hi:cH (p.U X.P) p.s.heap out.toList ts):X.mv p ⟨s',p.ρ,p.st⟩∧X.den ⟨s',p.ρ,p.st⟩ (.ref S) (.lst (ts.map eI)):=
 qP R hk hz hg hd hos hS ho (Hg (c:=Pt.cfg X.P ⟨s',p.ρ,p.st⟩) (λ b o hb hub=>⟨hk b o hb,P5 _ hub⟩) hi)
theorem tM{A:Around}{E:VS}{s:Shared}{l:Addr}{vs:List Value}{Q:List Value→Shared→Prop}(hl:s.heap.IsList l vs.toArray)(hsz:vs.length≤sizeLine)(h:∀h',(∀b o,s.heap.get? b=some o→h'.get? b=some o)→s.heap.objs.size≤h'.objs.size→Q vs {s with heap:=h'}):wpAny X.m A (collect (.ref l)) Q E s:=by
 refine collect_list hl (h _ (λ b o hb=>?_) ?_) hsz
 ·have hlt:=az hb
  rw[Heap.get?_update_ne _ _ _ _ (aL hlt),Heap.get?_push_ne _ _ _ (aL hlt)]
  exact hb
 ·rw[Heap.size_update,size_push'];exact bT _
theorem o9(R:X.rep p){ts:List mL}(hv:X.den p v (.lst (ts.map eI)))(h64:ts.length<64):GA X X.den p (call (.builtin "sorted") [v]) (.lst ((fD ts).map eI)) p.st:=by
 intro Q E kQ
 cases hv with
 | @lst a o xs n _ _ ho hc hd hu hi=>
  have T:=un R hi
  have hl:xs.toList.length=ts.length:=by rw[hi.length,aG]
  refine cj (call_function_entry kind_sorted plain_sorted entry_sorted (args_sorted1 _) ?_)
  unfold Builtin.«sorted»
  refine aa (m:=checkCount "sorted" 1 1 _) (ak ?_)
  refine aa (tM (l:=a) (vs:=xs.toList) ⟨o,ho,hc,n,by simpa using hd⟩ (by rw[hl,sizeLine_eq];omega) λ h' hkp hle=>?_)
  refine aa (wpAny_newList ?_ (by rw[hl,sizeLine_eq];omega))
  have hoL:(h'.push (seqObj "list" xs.toList.toArray 0)).get? h'.objs.size=some (seqObj "list" xs.toList.toArray 0):=Heap.get?_push_size _ rfl
  refine aa (aV (wpAny_call_entry (s:={p.s with heap:=h'.push (seqObj "list" xs.toList.toArray 0)}) slot_list_sort ⟨_,hoL,rfl⟩ entry_list_sort
   (py T (λ b o hb=>ah _ (hkp b o hb)) (λ o hb=>absurd (az hb) (aN.mpr hle)) hoL (by rw[hl];exact h64) λ out hout=>⟨_,rfl,?_⟩) (args_list_sort _)))
  refine ak ⟨_,rfl,λ hz=>?_⟩
  obtain⟨e,he⟩:=sortedHeap_at (out:=out) hoL
  have keep:∀b o,p.s.heap.get? b=some o→(sortedHeap (h'.push (seqObj "list" xs.toList.toArray 0)) h'.objs.size xs.toList out).get? b=some o:=λ b o hb=>by
   have:=hkp b o hb
   have hlt:=az this
   rw[sortedHeap_old (aL hlt) (by rw[size_push'];exact Nat.lt_succ_of_lt hlt),Heap.get?_push_ne _ _ _ (aL hlt)]
   exact this
  have fin:∀s':Shared,s'.heap=sortedHeap (h'.push (seqObj "list" xs.toList.toArray 0)) h'.objs.size xs.toList out→s'.gens=p.s.gens→s'.drawn=p.s.drawn→s'.os=p.s.os→p.s.heap.objs.size≤s'.heap.objs.size→Q (.ref h'.objs.size) s':=λ s' e1 e2 e3 e4 e5=>by
   obtain⟨M1,M2⟩:=FG R (s':=s') (λ b o hb=>by rw[e1];exact keep b o hb) e5 e2 e3 e4 hle (by rw[e1];exact he) hout
   exact kQ _ _ M1 rfl M2
  exact fin _ rfl rfl rfl rfl hz
set_option tactic.hygienic true in
theorem AI(hh:X.A.handled=none)(R:X.rep p)(hv:X.den p v a)(h:kh a=some d):GA X X.den p (call (.builtin "sorted") [v]) d p.st:=by
 unfold kh at h
 split at h
 ·split at h h
  rename_i ss hss
  split at h h
  rename_i hb
  cases h
  have:=bp.mp hb
  rw[bf]at this
  exact pc hh R hv hss this
 ·split at h h
  rename_i hb
  have hlt:=bp.mp hb
  rw[bf]at hlt
  split at h
  ·rename_i ns hns
   cases h
   have e:=nQ (g:= .int) (λ d a=>Ar) hns
   rw[e]at hv hlt
   exact pe R hv (by simpa using hlt)
  ·split at h h
   rename_i ts hts
   cases h
   have e:=nQ (g:=eI) (λ d a=>Ap) hts
   rw[e]at hv hlt
   exact o9 R hv (by simpa using hlt)
 ·cases h
end
end
section
open PySem.Spec
theorem q7:typeLookup (.type "list") "keys"=pure none:=by rw[typeLookup_type,builtinLookup_eq_fast];kernel_rfl
section
variable{prog:Program}{w:World}{A:Around}{E:VS}{s:Shared}
theorem yK{a:Addr}{o:Obj}{xs:Array Value}{k:Nat}{Q:Option Value→Shared→Prop}(hx:s.heap.get? a=some o)(hc:o.cls= .type "list")(hdat:o.data= .seq xs k)(hd:o.dict=none)(hA:A.handled=none)(h:∀h' tk,(∀b o,s.heap.get? b=some o→h'.get? b=some o)→Q none {s with heap:=h',toks:=tk}):wpAny (model prog w) A (getAttr? (.ref a) "keys") Q E s:=by
 obtain⟨c,dct,dat,sl⟩:=o
 simp only at hc hdat hd
 subst hc hdat hd
 obtain⟨hp,g,d,tk,os⟩:=s
 have hT:∀tk',(⟨hp,g,d,tk',os⟩:Shared).TypeIs (.ref a) "list":=λ _=>⟨_,hx,rfl⟩
 have f1:=sub_AttributeError
 have f3:=PySem.F.slot_list_getattribute.lookup
 have f4:=PySem.F.slot_list_getattribute.bind (.ref a)
 have f5:=am_list_getattr_none
 unfold getAttr? getAttrBy? getAttrBy
 repeat (any_goals (first|assumption|exact hT _|((with_reducible show wpAny _ _ (call (Value.builtin "list.__getattribute__") _ _) _ _ _);refine call_meets PySem.F.slot_list_getattribute (hT _) am_entry_list_getattribute (PySem.F.args_list_getattribute_2 _ _) (meets_getattribute_miss_list a xs k sl "keys" _ q7 (by decide+kernel)) ⟨hx,hA,λ h' tk' e hx'=>?_⟩)|wp_step))
 obtain⟨t',u',he⟩:=hx'.there
 show wpAny _ _ (getattributeRaised _ _ _ _ _ _ _) _ _ _
 unfold getattributeRaised
 repeat (any_goals (first|assumption|wp_step))
 exact h _ _ hx'.keeps
theorem qp:entryFor table "dict.update.loop"=some Builtin.«dict.update.loop»:=entryFor_of_tree (by kernel_rfl)
theorem jg:plainId "dict.update.loop"=true:=by decide+kernel
end
noncomputable def gR:List D→List (D×D)→Option (List (D×D))
 |[],acc=>some acc
 |d::r,acc=>match d with
  | .tup [k,v]=>(match dN k with
   |some kk=>gR r (d4 acc kk v)
   |none=>none)
  |_=>none
theorem BZ{α:Type}{b:Bool}{x y:List α}{n:Nat}(h1:x.length≤n)(h2:y.length≤n):(cond b x y).length≤n:=by
 induction b using Bool.casesOn with
 |true=>exact h1
 |false=>exact h2
theorem A7(es:List (D×D))(k:cv)(d:D):(d4 es k d).length≤es.length+1:=by
 induction es with
 |nil=>exact aq _
 |cons p r ih=>exact BZ (bT _) (bK ih)
section
variable{prog:Program}{w:World}{A:Around}
set_option tactic.hygienic true in
theorem zw(hh:A.handled=none){c:dW}{d it l:Addr}{xs:Array Value}(hdi:d≠it)(hdl:d≠l)(hil:l≠it)(hdc:∀o,c.h.get? d≠some o)(hic:∀o,c.h.get? it≠some o){res:List (D×D)}{R:Result→Shared→Prop}:
  ∀(rest:List D) (i:Nat) (acc:List (D×D)) (kvs:List (cv×Value)) (s:Shared),bH prog w c (xs.toList.drop i) rest→gR rest acc=some res→dg prog w c kvs acc→s.heap.DictOf (bV prog w) d kvs→s.heap.IsListIter it l i→s.heap.IsList l xs→
   (∀b o,c.h.get? b=some o→s.heap.get? b=some o)→acc.length+rest.length≤1000000→
   (∀h' tk kvs',(∀b o,c.h.get? b=some o→h'.get? b=some o)→h'.DictOf (bV prog w) d kvs'→dg prog w c kvs' res→R (.ok (.ret .none)) {s with heap:=h',toks:=tk})→
   codeAny (model prog w) A (.builtin "dict.update.loop" ⟨[.ref d,.ref it,rawInt (i:Int),.none],[]⟩) R s:=by
 intro rest
 induction rest with
 |nil=>
  intro i acc kvs s hi hf hp hd hit hl hk hsz hR
  cases hf
  refine codeAny_builtin qp ?_
  rw[Around.under_plainId jg _]
  unfold Builtin.«dict.update.loop»
  dsimp only
  have hnone:xs[i]?=none:=by
   have:xs.toList.drop i=[]:=by
    induction h:xs.toList.drop i using List.casesOn with
    |nil=>rfl
    |cons v vs=>rw[h]at hi;cases hi
   have:=List.drop_eq_nil_iff.mp this
   rw[Array.length_toList]at this
   exact Array.getElem?_eq_none this
  show wpAny _ _ (pyNext (.ref it)>>=_) _ _ _
  refine aa (wpAny_pyNext_list_end (A:=A.in1) hh hit hl hnone λ h' he=>?_)
  show wpAny _ _ (Builtin.Dict.addKeywords d []>>=λ _=>ret .none) _ _ _
  refine aa (ak (ak ?_))
  have hkeep:∀b o,b≠it→s.heap.get? b=some o→h'.get? b=some o:=he
  refine hR h' s.toks kvs (λ b o hb=>hkeep b o (λ e=>hic o (e▸hb)) (hk b o hb)) ?_ hp
  exact hd.at λ o ho=>hkeep d o hdi ho
 |cons x rest ih=>
  intro i acc kvs s hi hf hp hd hit hl hk hsz hR
  unfold gR at hf
  split at hf
  ·rename_i k v
   split at hf
   ·rename_i kk hkk
    obtain⟨y,ys,hy⟩:∃y ys,xs.toList.drop i=y::ys:=by
     induction h:xs.toList.drop i using List.casesOn with
     |nil=>rw[h]at hi;cases hi
     |cons y ys=>exact⟨y,ys,rfl⟩
    rw[hy]at hi
    have hys:xs.toList.drop (i+1)=ys:=by rw[←List.drop_drop,hy];rfl
    have hxi:xs[i]?=some y:=by
     rw[←Array.getElem?_toList]
     have:=ae (λ l=>l[0]?) hy
     simpa using this
    cases hi with
    |cons h1 hr=>
    cases h1 with
    | @tup a o zs n _ ho hc hdt hu hz=>
    obtain⟨zl⟩:=zs
    cases hz with
    | @cons kv _ _ _ hkv hz2=>
    cases hz2 with
    | @cons vv _ _ _ hvv hz3=>
    cases hz3
    refine codeAny_builtin qp ?_
    rw[Around.under_plainId jg _]
    unfold Builtin.«dict.update.loop»
    dsimp only
    show wpAny _ _ (pyNext (.ref it)>>=_) _ _ _
    refine aa (wpAny_pyNext_list_item (A:=A.in1) hit hl hxi λ h' hit' hs'=>?_)
    have hk1:∀b o,c.h.get? b=some o→h'.get? b=some o:=λ b o hb=>(hs'.2 b λ e=>hic o (e▸hb)).trans (hk b o hb)
    have hd1:h'.DictOf (bV prog w) d kvs:=hd.at λ o ho=>(hs'.2 d hdi).trans ho
    have hl1:h'.IsList l xs:=let⟨o,ho,r⟩:=hl;⟨o,(hs'.2 l hil).trans ho,r⟩
    dsimp only
    refine aa (aV ?_)
    have hT:({s with heap:=h'}:Shared).TypeIs (.ref a) "tuple":=⟨o,hk1 _ _ ho,hc⟩
    refine aa (wpAny_tryCatch ?_)
    show wpAny _ _ (typeOf (.ref a)>>=_) _ _ _
    refine aa (jE hT ?_)
    rw[aZ (by decide)]
    refine aa (wpAny_seqItems (s:={s with heap:=h'}) (hk1 _ _ ho) hdt (ak ?_))
    show wpAny _ _ (holding [kv,vv] (dictSet d kv vv)) _ _ _
    refine aV (wpAny_dictSet_pairs (knd:=bV prog w) (s:={s with heap:=h'}) (gS hkv hkk) hd1 (λ h2 hd2 hs2=>?_) ?_)
    ·have hn:(kvs.map (·.1)).Nodup:=let⟨_,_,_,_,_,_,_,_,hn⟩:=hd1;hn
     refine ak ⟨plainId_quiet jg _,?_⟩
     have hlen:=A7 acc kk v
     have:=ih (i+1) (d4 acc kk v) (stored kvs kk vv) {s with heap:=h2,toks:=s.toks+1} (by rw[hys];exact hr) hf (dg.stored hp kk hvv hn) hd2
      (hit'.at λ o eo=>(hs2.2 it (Ne.symm hdi)).trans eo) (let⟨o,ho,r⟩:=hl1;⟨o,(hs2.2 l (Ne.symm hdl)).trans ho,r⟩) (λ b o hb=>(hs2.2 b λ e=>hdc o (e▸hb)).trans (hk1 b o hb)) (by simp only[List.length_cons]at hsz;omega) hR
     rw[show((i+1:Nat):Int)=(i:Int)+1 by omega]at this
     exact this
    ·have:=hp.length
     rw[sizeLine_eq]
     simp only[List.length_cons]at hsz
     omega
   ·cases hf
  ·cases hf
end
noncomputable def tD(a:D):Option D:=match a with
 | .lst ds=>(match small ds with
  |true=>(match gR ds []with
   |some es=>some (.dct es)
   |none=>none)
  |false=>none)
 |_=>none
section
variable{X:Cx}{p:Pt}{v u:Value}{ds:List D}{a d:D}
theorem Da(hh:X.A.handled=none)(hs:sysModules<X.h₁.objs.size)(R:X.rep p)(hv:X.den p v a)(h:tD a=some d):GA X X.den p (call (.type "dict") [v]) d p.st:=by
 split at h h
 rename_i es0
 split at h h
 rename_i hsm
 split at h h
 rename_i es hes
 cases h
 intro Q E kQ
 have hlen:=c8 hsm
 cases hv with
 | @lst l o xs n _ hnone ho hc hd hu hi=>
  have hlt:=az ho
  refine cj (callType_codes (Q₁:=λ obj s₁=>obj= .ref p.s.heap.objs.size∧s₁={p.s with heap:=p.s.heap.push {cls:= .type "dict",data:= .dict #[]}}) PySem.F.kt_called_dict (PySem.F.kt_typeCall_dict_1 _) PySem.F.entry_dict_init (kt_code_dict_new _ ⟨rfl,rfl⟩) ?_)
  rintro obj s₁ ⟨rfl,rfl⟩
  have hnew:(p.s.heap.push {cls:= .type "dict",data:= .dict #[]}).DictOf (bV X.prog X.w) p.s.heap.objs.size []:=Heap.DictOf.new p.s.heap
  have ho1:=ah {cls:= .type "dict",data:= .dict #[]} ho
  refine⟨hnew.typeIs,PySem.F.args_dict_init_2 _ _,?_⟩
  unfold Builtin.«dict.__init__»
  refine aa ?_
  unfold Builtin.Dict.selfAndRest
  refine aa (wpAny_notOrdered_dict hnew.typeIs ?_)
  show wpAny _ _ (pure (p.s.heap.objs.size,[Value.ref l])) _ _ _
  refine ak ?_
  show wpAny _ _ (Builtin.Dict.updateFrom "dict.__init__" p.s.heap.objs.size (.ref l) [] .none) _ _ _
  unfold Builtin.Dict.updateFrom
  refine aa (jE (T:= "list") ⟨o,ho1,hc⟩ ?_)
  rw[aZ (by decide)]
  refine aa (yK ho1 hc hd hnone hh λ h' tk hk=>?_)
  rw[aZ (by rfl)]
  refine aa (wpAny_rule ?_)
  have hl2:h'.IsList l xs:=⟨o,hk _ _ ho1,hc,n,hd⟩
  have hd2:h'.DictOf (bV X.prog X.w) p.s.heap.objs.size []:=(hnew).at λ o ho=>hk _ _ ho
  have hdz:p.s.heap.objs.size<h'.objs.size:=by obtain⟨o,ho⟩:=iv hd2;exact az ho
  have hlz:l<h'.objs.size:=az (hk _ _ ho1)
  refine aa (wpAny_pyIter_list hl2 ?_)
  have hit:(h'.push {cls:= .type "list_iterator",data:= .fields #[.ref l,.int 0 0]}).IsListIter h'.objs.size l 0:=⟨_,Heap.get?_push_size _ rfl,rfl,rfl⟩
  refine ak ⟨plainId_quiet jg _,?_⟩
  refine zw (A:=X.A.in1) (prog:=X.prog) (w:=X.w) (c:=p.cfg X.P) (xs:=xs) (d:=p.s.heap.objs.size) (it:=h'.objs.size) (l:=l) hh (aL hdz) (bM hlt) (aL hlz) (λ o ho=>absurd (az ho) (dK _)) (λ o ho=>absurd (az ho) (aN.mpr (bJ hdz))) es0 0 [] [] _ (by rw[List.drop_zero];exact hi) hes .nil ?_ ?_ ?_ ?_ (by simpa using hlen) λ h3 tk3 kvs' hk3 hd3 hp3=>?_
  ·exact hd2.push _
  ·exact hit
  ·obtain⟨o,ho,r⟩:=hl2
   exact⟨o,ah _ ho,r⟩
  ·exact λ b o hb=>ah _ (hk _ _ (ah _ hb))
  refine⟨rfl,λ hz=>?_⟩
  have m:X.mv p ⟨{p.s with heap:=h3,toks:=tk3},p.ρ,p.st⟩:=Mv.grow R hk3 hz rfl rfl rfl
  have le:(p.cfg X.P).Le (Pt.cfg X.P ⟨{p.s with heap:=h3,toks:=tk3},p.ρ,p.st⟩):=⟨λ b o hb hu=>⟨hk3 b o hb,hu⟩,λ _ _=>rfl,aq _⟩
  refine kQ _ _ m rfl (.dct hd3 ?_ (hp3.mono le) (by
   have:p.s.heap.objs.size≠sysModules:=λ e=>by have:=R.size;rw[e]at this;exact absurd hs (aN.mpr (bJ this))
   exact beq_eq_false_iff_ne.mpr this))
  rintro(hf|hP)
  ·exact absurd (R.footLt hf) (dK _)
  ·exact absurd (R.priv _ hP).1 (dK _)
end
end
section
open PySem.Spec
noncomputable def IP(T:cV)(ev:dh)(o:Expr)(attr:Str):Loc→St→(D→St→aD)→aD:=λ loc st k=>cond (iK o) (ev o loc st λ a st=>
 (DR T st a attr).elim (cS (iR st a) λ r=>cond (bD r.2.2 attr).isSome .no (cS (T.bnd r.2.1 attr) λ fa=>k (.meth (.ref fa) r.1) st)) λ d=>k d st) .no
section
variable{X:Cx}{env:Env}{ev:dh}{p:Pt}{loc:Loc}{pos:Pos}{T:cV}{run:ee}{v u:Value}{d a:D}{ds:List D}{vs:List Value}
theorem yZ{α:Type}{o:Option α}(h:o.isSome=false):o=none:=Option.isNone_iff_eq_none.mp (Option.isSome_eq_false_iff.mp h)
theorem DG(tok:eD X T)(R:X.rep p){r:Nat×Addr×List (Str×D)}(hr:iR p.st a=some r)(hv:X.den p v a){attr:Str}(hl:bD r.2.2 attr=none){fa:Addr}(hb:T.bnd r.2.1 attr=some fa){expr:Bool}:GA X X.den p (getAttr v attr expr) (.meth (.ref fa) r.1) p.st:=λ Q E kQ=>by
 obtain⟨rfl,hi⟩:=jp hr
 obtain⟨K,ck,hf,hty,hget,htk,hcp⟩:=tok.bnds _ _ _ hb
 induction hv using denI_ob with
 |ob hlt=>
  obtain⟨ox,od,m,I,hns,hod,_,_,_,_,_,_,hf'⟩:=na R hi
  obtain⟨cd,hcd,hh⟩:=ck.cd
  have hX:=zS R ck.hX
  exact get_bind hX I ck.hga (findObj_fn (show Option.any _ _=true by rw[hcd];exact hh) hf hget htk hcp (by rw[nU hns hod attr,hf' attr hl])) ck.hk (gj (fn_get (s:={p.s with toks:=p.s.toks+1}) hX hty
   (ak (kQ _ ⟨_,p.ρ,p.st⟩ (Mv.push R (methodObj (.ref fa) (.ref (p.ρ r.1).1))) rfl (.meth (Heap.get?_push_size _ rfl) R.new_U hlt)))))
theorem HF(tok:eD X T)(he:HE X env ev)(R:X.rep p)(F:ax X p env loc){o:Expr}{attr:Str}:SE X.e p (eval (.Attribute o attr pos) env) (IP T ev o attr loc p.st):=λ k out hc ho Q E kQ=>
 have hc:=ce hc ho
 Attribute_any_ ((he o loc p R F).go hc.2 ho λ v q a m hv hk=>by
  induction h:DR T q.st a attr using Option.casesOn with
  |some d=>
   rw[h]at hk
   exact DQ (X:=X.e) tok m.rep hv h Q E λ v2 q2 m2 e2 hv2=>kQ v2 q2 _ q.st (dY m m2) e2 hv2 hk
  |none=>
   rw[h]at hk
   obtain⟨r,hr,hk⟩:=bX hk ho
   obtain⟨hl,hk⟩:=cY hk ho
   obtain⟨fa,hfa,hk⟩:=bX hk ho
   exact DG (X:=X.e) tok m.rep hr hv (yZ hl) hfa Q E λ v2 q2 m2 e2 hv2=>kQ v2 q2 _ q.st (dY m m2) e2 hv2 hk) (qo hc.1)
noncomputable def Cx.inMake(X:Cx)(C:Addr)(vs:List Value):Cx:={X with A:=X.A.under (.builtin "type.__call__" ⟨.ref C::vs,[]⟩)}
noncomputable def Pt.inst(p:Pt)(C:Addr):Pt:=⟨{p.s with heap:=(p.s.heap.push emptyDict).push (instObj C p.s.heap.objs.size)},p.addρ (p.s.heap.objs.size+1,p.s.heap.objs.size),p.st.add (.inst C [])⟩
theorem Gz(R:X.rep p)(C:Addr):X.e.mv p (p.inst C):=
 have hx:((p.s.heap.push emptyDict).push (instObj C p.s.heap.objs.size)).get? (p.s.heap.objs.size+1)=some (instObj C p.s.heap.objs.size):=bA p.s.heap emptyDict▸Heap.get?_push_size _ rfl
 dJ.add (o:= .inst C []) R (λ b o e=>ah _ (ah _ e)) (by rw[bA,bA];exact aB _ 2) rfl rfl rfl (bT _) (aq _) λ c l e=>
  Oo.mk (instObj C p.s.heap.objs.size) (λ _=>none) (aL (Nat.lt_succ_self _)) (e▸hx) rfl (λ _ h=>Data.noConfusion h) rfl (e▸Heap.Ns1.of_empty ((Heap.Ns.new p.s.heap (.type "dict")).push _)) (λ f d h=>nsK h) λ f _=>rfl
theorem DB(R:X.rep p){K:Frag}{C fI:Addr}(ck:xF X K C)(hm:makesIn K C=true)(hi:findIn K (.ref C) "__init__"=some (some (.ref fI)))(hf:typeIn K (.ref fI)=some (.type "function"))(hv:X.denL p vs ds){st':St}(h:(X.inMake C vs).rep (p.inst C)→(X.inMake C vs).denL (p.inst C) (.ref (p.s.heap.objs.size+1)::vs) (.ob p.st.next::ds)→GC (X.inMake C vs).e (p.inst C) (.ref fI) (.ref (p.s.heap.objs.size+1)::vs) .none st'):GC X.e p (.ref C) vs (.ob p.st.next) st':=λ Q E kQ=>
 have hX:=zS R ck.hX
 have M:=Gz R C
 have dx:X.den (p.inst C) (.ref (p.s.heap.objs.size+1)) (.ob p.st.next):=kX
 make_core (makes_of hX hm) (looks_findIn hX hi) (λ self=>bind_fn hX self hf) (.inl rfl)
  (codeAny_mono (h M.rep (.cons dx (fY (X:=X.e) M X.e_ok hv)) (λ v s'=>v= .none∧Q (.ref (p.s.heap.objs.size+1)) s') E λ a q m e hd=>
   ⟨b8.inv hd,kQ _ q (dY M m) e (gk m dx)⟩) λ r s' hr=>by rcases r with e|(v|_|_|_)<;>exact hr)
end
end
section
open PySem.Spec
variable{v:Value}
theorem b6.cnd{α:Type}{P:α→Prop}{b:Bool}{x y:Option α}(k1:b=true→b6 P x)(k2:b6 P y):b6 P (_root_.cond b x y):=by
 induction b using Bool.casesOn with
 |false=>exact k2
 |true=>exact k1 rfl
noncomputable def IB(n:String):Value→Bool
 | .builtin m=>decide (m=n)
 |_=>false
theorem Cu{n:String}(h:IB n v=true):v= .builtin n:=by
 revert h
 induction v using Value.casesOn with
 |builtin m=>exact λ h=>bP h▸rfl
 |_=>exact ftK
noncomputable def Cn:Value→Bool
 | .builtin _=>true
 | .type _=>true
 |_=>false
noncomputable def Ir(st:St)(v:Value)(ds:List D):Option (D×St):=cond (IB "sorted" v) ((one ds).bind λ a=>(kh a).map λ d=>(d,st)) (cond (gP "dict" (.val v)) ((one ds).bind λ a=>(tD a).map λ d=>(d,st)) ((Lg v).bind λ b=>rJ st b ds))
noncomputable def D.meth?:D→Option (Value×Nat)
 | .meth f i=>some (f,i)
 |_=>Option.none
abbrev Op:=St→List D→Option (D×St)
noncomputable def Jr(run:ee)(fa:Addr)(first:List D):Op:=λ st ds=>run fa (first++ds) st
noncomputable def NU(T:cV)(run:ee)(v:Value):Option Op:=(uI v).elim (cond (Cn v) (some λ st ds=>Ir st v ds) none) λ fa=>cond (T.fn fa).isSome (some (Jr run fa [])) ((T.cls fa).map λ _=>Jr run fa [])
noncomputable def NV(T:cV)(run:ee)(r:Value×Nat):Option Op:=(uI r.1).bind λ fa=>(T.fn fa).map λ _=>Jr run fa [.ob r.2]
noncomputable def xq(T:cV)(run:ee)(fd:D):Option Op:=fd.val?.elim (fd.meth?.bind (NV T run)) (NU T run)
noncomputable def qt(T:cV)(run:ee)(ev:dh)(x:Str)(px:Pos)(args:List Expr):Loc→St→(D→St→aD)→aD:=λ loc st k=>cond (noStar args)
 (ev (.Name x px) loc st λ fd st=>cS (xq T run fd) λ op=>de ev args loc st λ ds st=>.node (op st ds) k) .no
theorem mU{a:Addr}(h:uI v=some a):v= .ref a:=by
 revert h
 induction v using Value.casesOn with
 |ref b=>exact λ h=>an h▸rfl
 |_=>exact nsK
section
variable{X:Cx}{env:Env}{ev:dh}{p:Pt}{loc:Loc}{pos:Pos}{T:cV}{run:ee}{v u:Value}{d a:D}{ds:List D}{vs:List Value}
theorem vt(tok:eD X T)(R:X.rep p){C fI:Addr}(h:T.cls C=some fI):Looks X.m p.s.heap (keeperOf (.ref C)) Keeper.machine:=by
 obtain⟨K,ck,_,_,_,hs,o,cd,ho,hd⟩:=tok.clss C fI h
 unfold keeperOf
 refine(Looks.ld (part:=none) (R.keep _ _ ho)).andThen ?_
 rw[hd]
 dsimp only
 refine(looks_specialIn (zS R ck.hX) hs).andThen ?_
 rw[aZ (by decide)]
 exact Looks.now
theorem s5(tok:eD X T)(R:X.rep p){fa:Addr}{f:Fn×oY}(hf:T.fn fa=some f){a:Addr}{self:Value}(ho:p.s.heap.get? a=some (methodObj (.ref fa) self)):Looks X.m p.s.heap (keeperOf (.ref a)) Keeper.boundFrame:=by
 obtain⟨o,fd,hof,hdat,_⟩:=(tok.fns fa f hf).1
 unfold keeperOf
 refine(Looks.ld (part:=none) ho).andThen ?_
 show Looks _ _ (if(Value.type "method" !=Value.type "method")=true then _ else _) _
 rw[aI (by decide)]
 show Looks _ _ (load fa>>=_) _
 refine(Looks.ld (part:=none) (R.keep _ _ hof)).andThen ?_
 rw[hdat]
 exact Looks.now
structure zV(X:Cx)(p:Pt)(v:Value)(op:Op):Prop where
 keep:∀q,X.e.mv p q→∃kk,(kk=Keeper.frame∨kk=Keeper.machine∨kk=Keeper.boundFrame)∧Looks X.m q.s.heap (keeperOf v) kk
 go:∀q vs ds r,X.e.mv p q→X.denL q vs ds→op q.st ds=some r→GA X.e X.den q (call v vs) r.1 r.2
inductive Oh(X:Cx)(q:Pt)(v f:Value)(i:Nat):Prop
 |mk (a:Addr) (e:v= .ref a) (ho:q.s.heap.get? a=some (methodObj f (.ref (q.ρ i).1))) (hi:i<q.st.next)
theorem BP{f:Value}{i:Nat}(h:X.den p v (.meth f i)):Oh X p v f i:=by
 induction h using denI_meth with
 |«meth» ho hu hi=>exact⟨_,rfl,ho,hi⟩
theorem Kd(hh:X.A.handled=none)(hs:sysModules<X.h₁.objs.size)(R:X.rep p)(hvs:X.denL p vs ds):b6 (t7 X p v vs) (Ir p.st v ds):=
 .cnd (λ h=>gA hvs (P:=t7 X p v) λ u a hu=>.mp λ d hd=>by obtain rfl:=Cu h;exact AI hh R hu hd) (.cnd (λ h=>gA hvs (P:=t7 X p v) λ u a hu=>.mp λ d hd=>by obtain rfl:=gO (X:=X) (p:=p) (.val v) h;exact Da hh hs R hu hd)
  (.bnd λ b hb=>.all λ r h=>by obtain rfl:=tS hb;exact Hy hh R hvs h))
theorem vr{M:Model}{h:Heap}(hl:Cn v=true):Looks M h (keeperOf v) Keeper.machine:=by
 revert hl
 induction v using Value.casesOn with
 |builtin n=>exact λ _=>n3
 |type n=>exact λ _=>gq
 |_=>exact ftK
theorem Ht(hh:X.A.handled=none)(hs:sysModules<X.h₁.objs.size)(tok:eD X T)(hrun:j9 X run):b6 (zV X p v) (NU T run v):=
 .elim (λ fa hfa=>by
  obtain rfl:=mU hfa
  have go (q:Pt) (vs:List Value) (ds:List D) (r:D×St) (m:X.e.mv p q) (hvs:X.denL q vs ds) (h:run fa ds q.st=some r):GA X.e X.den q (call (.ref fa) vs) r.1 r.2:=hrun.at h m.rep hvs
  refine .cnd (λ h=>zV.mk (λ q m=>?_) go) (.mp (P:=zV X p (.ref fa)) λ fI hI=>⟨λ q m=>⟨_,.inr (.inl rfl),vt (X:=X) tok m.rep hI⟩,go⟩)
  obtain⟨f,hf⟩:=Option.isSome_iff_exists.mp h
  exact⟨_,.inl rfl,gN (X:=X) m.rep (tok.fns fa f hf).1⟩)
 (.cond λ hl=>zV.mk (λ q m=>⟨_,.inr (.inl rfl),vr hl⟩) λ q vs ds r m hvs h=>aT (P:=t7 X.e q v vs) (Kd (X:=X.e) hh hs m.rep hvs) h)
theorem Hu(tok:eD X T)(hrun:j9 X run){r:Value×Nat}(hv:X.den p v (.meth r.1 r.2)):b6 (zV X p v) (NV T run r):= .bnd λ fa hfa=>.mp λ f hf=>by
 rw[mU hfa]at hv
 refine⟨λ q m=>?_,λ q vs ds s m hvs h Q E kQ=>?_⟩
 ·obtain⟨a,rfl,ho,hi⟩:=BP (gk m hv)
  exact⟨_,.inr (.inr rfl),s5 (X:=X) tok m.rep hf ho⟩
 ·obtain⟨a,rfl,ho,hi⟩:=BP (gk m hv)
  exact gj (method_call ho (hrun.atC h m.rep (.cons (.ob r.2 hi) hvs) Q E kQ))
theorem FY{d:D}:b6 (λ r=>d= .meth r.1 r.2) d.meth?:=by
 induction d using D.casesOn with
 |«meth» f i=>exact rfl
 |_=>exact ag
theorem zG(hh:X.A.handled=none)(hs:sysModules<X.h₁.objs.size)(tok:eD X T)(hrun:j9 X run)(hv:X.den p v d):b6 (zV X p v) (xq T run d):= .elim (λ w hw=>aT (P:=λ w=>v=w) (qC hv) hw▸Ht hh hs tok hrun)
 (.bnd λ r hr=>Hu tok hrun (aT (P:=λ r:Value×Nat=>d= .meth r.1 r.2) FY hr▸hv))
theorem Hv(hh:X.A.handled=none)(hs:sysModules<X.h₁.objs.size)(tok:eD X T)(hrun:j9 X run)(he:HE X env ev)(R:X.rep p)(F:ax X p env loc){x:Str}{px:Pos}{args:List Expr}:SE X.e p (eval (.Call (.Name x px) args [] pos) env) (qt T run ev x px args loc p.st):=λ k out hc ho Q E kQ=>
 have hc:=ce hc ho
 wpAny_Call_Name_kw ((he _ loc p R F).go hc.2 ho λ v q d m hv hk=>(bX hk ho).elim λ op h=>
  have c:=aT (zG hh hs tok hrun hv) h.1
  cZ (X:=X) m.rep (F.keepE m R) (λ e q R F=>he e loc q R F) hc.1 h.2 ho c.keep λ vs q' ds st' m' e' hvs hk'=>by
   subst e'
   obtain⟨r,hr,hk'⟩:=kp hk' ho
   exact c.go q' vs ds r m' hvs hr Q E λ v2 q2 m2 e2 hv2=>kQ v2 q2 _ _ (dY m (dY m' m2)) e2 hv2 hk')
end
end
section
open PySem.Spec
variable(T:cV)(run:ee)(ev:dh)(args:List Expr)(pos:Pos)(et:mP)
noncomputable def FF:Expr→Option (Str×Pos)
 | .Name x px=>some (x,px)
 |_=>none
noncomputable def P1:Expr→Bool
 | .Attribute _ _ _=>true
 |_=>false
noncomputable def xr(pn:Str→Bool)(pa:Expr→Bool):Expr→Option (Str×Pos×Expr×Pos)
 | .Call f as kw cp=>cond kw.isEmpty ((FF f).bind λ n=>as.head?.bind λ e=>cond (as.tail.isEmpty&&(pn n.1&&pa e)) (some (n.1,n.2,e,cp)) none) none
 |_=>none
noncomputable def H7:Expr→Option (Str×Pos×Expr×Pos):=xr (c7 · "reversed") λ _=>true
noncomputable def Ka:Expr→Option (Str×Pos×Expr×Pos):=xr uQ P1
noncomputable def Al:Expr→Option (List Expr)
 | .Tuple ts _ _=>some ts
 |_=>none
noncomputable def IM(T:cV)(run:ee)(ev:dh)(x:Str)(px:Pos)(args:List Expr):Loc→St→(D→St→aD)→aD:=
 args.casesOn (qt T run ev x px args) λ a l=>l.casesOn ((H7 a).elim (qt T run ev x px args) λ q=>sZ ev x px q.1 q.2.1 q.2.2.1) λ b l=>
  cond (l.isEmpty&&c7 x "isinstance") ((Al b).elim (qt T run ev x px args) λ ts=>Ix ev x px a ts) (qt T run ev x px args)
noncomputable def IN(T:cV)(run:ee)(ev:dh)(o:Expr)(name:Str)(apos pos:Pos)(args:List Expr):Loc→St→(D→St→aD)→aD:=
 args.casesOn (sM T run ev o name apos pos args) λ a l=>l.casesOn ((H7 a).elim (sM T run ev o name apos pos args) λ q=>xk ev o name apos pos q.1 q.2.1 q.2.2.1 q.2.2.2) λ b l=>
  cond (l.isEmpty&&(Al a).isSome) (Ia ev o name apos pos args) (sM T run ev o name apos pos args)
noncomputable def NT:Expr→Loc→St→(D→St→aD)→aD
 | .Name x px=>IM T run ev x px args
 | .Attribute o name apos=>IN T run ev o name apos pos args
 |_=>λ _ _ _=>.no
noncomputable def PZ{α:Type}(f1:CmpOp→Expr→Loc→St→(α→St→aD)→aD)(f2:CmpOp→CmpOp→Expr→Expr→Loc→St→(α→St→aD)→aD)(os:List CmpOp)(rs:List Expr):Loc→St→(α→St→aD)→aD:=
 os.casesOn (λ _ _ _=>.no) λ o1 os=>rs.casesOn (λ _ _ _=>.no) λ r1 rs=>os.casesOn (cond rs.isEmpty (f1 o1 r1) λ _ _ _=>.no) λ o2 os=>rs.casesOn (λ _ _ _=>.no) λ r2 rs=>cond (os.isEmpty&&rs.isEmpty) (f2 o1 o2 r1 r2) λ _ _ _=>.no
noncomputable def NZ(ev:dh)(op:BoolOp)(es:List Expr):Loc→St→(D→St→aD)→aD:=op.casesOn (Ls ev es) (Pa ev es)
noncomputable def H4(mb:Bool)(ev:dh)(a:Expr):Expr→Loc→St→(D→St→aD)→aD
 | .Slice l u st pos=>st.elim (NK mb ev a l u) λ e=>Jj ev a (.Slice l u st pos)
 |i=>Jj ev a i
noncomputable def MU(o:aY):Loc→St→(D→St→aD)→aD:=λ _ st k=>k (.ob st.next) (st.add o)
noncomputable def NF(T:cV)(run:ee)(evN:jD)(etN:jC)(ns:cr)(e:Expr):Loc→St→(D→St→aD)→aD:=match e with
 | .Name x _=>Ij T ns x
 | .Constant c _ _=>λ _ st k=>Di c st k
 | .BinOp l op r _=>N2 (evN ns) op l r
 | .Compare l os rs _=>PZ (λ o r=>Ho (evN ns) o l r) (λ o1 o2 r1 r2 loc st k=>rG (evN ns) o1 o2 l r1 r2 loc st λ b st=>k (.bool b) st) os rs
 | .UnaryOp op x _=>unC (evN ns) op x
 | .BoolOp op es _=>NZ (evN ns) op es
 | .IfExp t b o _=>ifC (etN ns) (evN ns) t b o
 | .Tuple es _ _=>Jb (evN ns) es
 | .List es pos=>M8 (T.mb pos.line) (evN ns) es
 | .Dict ks vs pos=>cond (ks.isEmpty&&vs.isEmpty) (cond (T.pb pos.line) (MU (.pdict [])) (MU (.dict []))) λ _ _ _=>.no
 | .Subscript a i pos=>H4 (T.mb pos.line) (evN ns) a i
 | .Attribute o attr _=>IP T (evN ns) o attr
 | .ListComp elt gens scope pos=>xp evN etN ns (.ListComp elt gens scope pos)
 | .Call f args kw pos=>cond kw.isEmpty (NT T run (evN ns) args pos f) λ _ _ _=>.no
 |_=>λ _ _ _=>.no
noncomputable def NW(et:mP)(op:BoolOp)(es:List Expr):Loc→St→(Bool→St→aD)→aD:=op.casesOn (Lr et es) (O9 et es)
noncomputable def unT(x:Expr):UnaryOp→Loc→St→(Bool→St→aD)→aD
 | .Not=>MS et x
 |_=>λ _ _ _=>.no
noncomputable def NB(evN:jD)(etN:jC)(ns:cr)(e:Expr):Loc→St→(Bool→St→aD)→aD:=match e with
 | .Compare l os rs _=>PZ (λ o r loc st k=>Ho (evN ns) o l r loc st λ d st=>cS (um d) λ b=>k b st) (λ o1 o2 r1 r2=>rG (evN ns) o1 o2 l r1 r2) os rs
 | .UnaryOp op x _=>unT (etN ns) x op
 | .BoolOp op es _=>NW (etN ns) op es
 | .IfExp t b o _=>ifT (etN ns) t b o
 | .Name x px=>nI (evN ns) (.Name x px)
 | .Call f args kw pos=>nI (evN ns) (.Call f args kw pos)
 | .Subscript a i pos=>nI (evN ns) (.Subscript a i pos)
 | .Attribute o a pos=>nI (evN ns) (.Attribute o a pos)
 |_=>λ _ _ _=>.no
structure Evs where
 e:jD
 t:jC
noncomputable def lc(T:cV)(run:ee)(n:Nat):Evs:=n.rec ⟨λ _ _ _ _ _=>.no,λ _ _ _ _ _=>.no⟩ λ _ r=>⟨NF T run r.e r.t,NB r.e r.t⟩
noncomputable def Az:Expr→Option (Expr×Expr)
 | .Subscript o i _=>cond (dT i) (some (o,i)) none
 |_=>none
noncomputable def DU(T:cV)(evN:jD)(etN:jC)(ns:cr)(t value:Expr):Loc→St→(Loc→St→aD)→aD:=cond (Ku value) (IL T evN etN ns t value)
 (cond (ie value||eR t) (λ _ _ _=>.no) ((Az t).elim (Lk T ns (evN ns) t value) λ r=>H9 (evN ns) r.1 r.2 value))
noncomputable def CU(ns:cr)(ev:dh)(eb:rU)(target iter:Expr)(body:List Stmt):Loc→St→(Loc→St→aD)→aD:=(Ka iter).elim (Ny ns ev eb target iter body) λ r=>Io ns ev eb r.1 r.2.1 r.2.2.1 target body
noncomputable def NC(T:cV)(evN:jD)(etN:jC)(eb:rU)(ns:cr)(s:Stmt):Loc→St→(Loc→St→aD)→aD:=match s with
 | .Expr e _=>IH (evN ns) e
 | .Return o _=>o.elim (λ _ st _=>.val .none st) λ e loc st _=>evN ns e loc st λ d st=>.val d st
 | .If t b o _=>ifS (etN ns) eb t b o
 | .While t b o _=>cond o.isEmpty (nA (etN ns) eb t b 400) λ _ _ _=>.no
 | .For target iter body o _=>cond o.isEmpty (CU ns (evN ns) eb target iter body) λ _ _ _=>.no
 | .Assign ts value _=>ts.casesOn (λ _ _ _=>.no) λ t l=>cond l.isEmpty (DU T evN etN ns t value) λ _ _ _=>.no
 | .AugAssign t op e _=>(FF t).elim (λ _ _ _=>.no) λ n=>N4 ns (evN ns) n.1 op e
 |_=>λ _ _ _=>.no
noncomputable def ec(T:cV)(run:ee)(n:Nat):cr→zU:=n.rec (λ _ _ _ _ _=>.no) λ n r ns s=>NC T (lc T run n).e (lc T run n).t (br (r ns)) ns s
noncomputable def zq(T:cV)(run:ee)(f:Fn)(ds:List D)(st:St):aD:=br (ec T run 40 f.ns) f.body (jS f.params ds) st λ _ st=>.val .none st
noncomputable def aD.get:aD→Option (D×St)
 | .val d st=>some (d,st)
 |_=>none
noncomputable def KV(T:cV)(run:ee)(f:Fn)(ds:List D)(st:St):Option (D×St):=(af (zq T run f ds st)).get
noncomputable def mI:List D→List Str→Bool
 |[],ps=>ps.isEmpty
 |_::x,ps=>ps.casesOn false λ _ y=>mI x y
noncomputable def x4(T:cV)(run:ee)(f:Fn)(m:oY)(ds:List D)(st:St):Option (D×St):=cond (mI ds f.params) (m.casesOn (KV T run f ds st)
 ((cq (frz [] 12) ds).bind λ ds'=>(KV T run f ds' ⟨[],0⟩).bind λ r=>(frz r.2.σ 12 r.1).map λ d'=>(d',st))
 ((cq (frz st.σ 12) ds).bind λ ds'=>(KV T run f ds' ⟨[],0⟩).bind λ r=>cond (jo r.1) (some (r.1,st)) none)) none
noncomputable def ay(T:cV)(n:Nat):ee:=n.rec (λ _ _ _=>none) λ _ run fa ds st=>
 (T.fn fa).elim ((T.cls fa).bind λ fI=>(run fI (.ob st.next::ds) (st.add (.inst fa []))).bind λ r=>cond r.1.noneB (some (.ob st.next,r.2)) none) λ f=>x4 T run f.1 f.2 ds st
end
section
open PySem.Spec
variable{α β:Type}{e a:Expr}{pn:Str→Bool}{pa:Expr→Bool}{st:St}
structure kb(X:Cx)(T:cV)(run:ee):Prop where
 hh:X.A.handled=none
 hs:sysModules<X.h₁.objs.size
 hr:dO X
 tok:eD X T
 hrun:j9 X run
theorem kb.withP{X:Cx}{T:cV}{run:ee}(g:kb X T run)(P':Addr→Prop):kb (X.withP P') T run:=⟨g.hh,g.hs,g.hr,g.tok,g.hrun⟩
theorem cn{l:List α}(h:l.isEmpty=true):l=[]:=List.isEmpty_iff.mp h
theorem qN:b6 (λ n=>e= .Name n.1 n.2) (FF e):=by
 induction e using Expr.casesOn with
 |Name x px=>exact rfl
 |_=>exact ag
theorem Ak:b6 (λ ts=>∃m ps,e= .Tuple ts m ps) (Al e):=by
 induction e using Expr.casesOn with
 |Tuple ts m ps=>exact⟨m,ps,rfl⟩
 |_=>exact ag
theorem Bh{l:List α}{a:α}(h:l.head?=some a)(h':l.tail.isEmpty=true):l=[a]:=by
 induction l using List.casesOn with
 |nil=>exact nsK h
 |cons b r=>
  obtain rfl:=cn h'
  exact ae (λ b=>[b]) (an h)
theorem DF:b6 (λ q=>a= .Call (.Name q.1 q.2.1) [q.2.2.1] [] q.2.2.2) (xr pn pa a):=by
 induction a using Expr.casesOn with
 |Call f as kw cp=>
  exact .cond λ hk=>.bnd λ n hn=>.bnd λ e he=>.cond λ h=>by
   obtain rfl:=cn hk
   obtain rfl:=Bh he (aE.mp h).1
   obtain rfl:=aT (P:=λ n:Str×Pos=>f= .Name n.1 n.2) qN hn
   exact rfl
 |_=>exact ag
theorem oJ{q:Str×Pos×Expr×Pos}(h:xr pn pa a=some q):a= .Call (.Name q.1 q.2.1) [q.2.2.1] [] q.2.2.2:=aT (P:=λ q:Str×Pos×Expr×Pos=>a= .Call (.Name q.1 q.2.1) [q.2.2.1] [] q.2.2.2) DF h
section
variable{X:Cx}{env:Env}{evN:jD}{etN:jC}{p:Pt}{loc:Loc}{pos:Pos}{T:cV}{run:ee}{ns:cr}
theorem pV{t:Sem Value}:SE X.e p t (λ _=>.no):=λ k out hc ho=>absurd hc.symm ho
theorem wW{t:Sem Bool}:ST X.e p t (λ _=>.no):=λ k out hc ho=>absurd hc.symm ho
theorem fH{P:β→Prop}{c1 c2:Loc→St→β}{b:Bool}(h1:b=true→P (c1 loc st))(h2:P (c2 loc st)):P (cond b c1 c2 loc st):=by
 induction b using Bool.casesOn with
 |true=>exact h1 rfl
 |false=>exact h2
theorem gx{P:β→Prop}{o:Option α}{c1:α→Loc→St→β}{c2:Loc→St→β}(h1:∀a,o=some a→P (c1 a loc st))(h2:P (c2 loc st)):P (o.elim c2 c1 loc st):=by
 induction o using Option.casesOn with
 |some a=>exact h1 a rfl
 |none=>exact h2
theorem DC(g:kb X T run){ev:dh}(he:HE X env ev)(R:X.rep p)(F:ax X p env loc){x:Str}{px:Pos}{args:List Expr}:SE X.e p (eval (.Call (.Name x px) args [] pos) env) (IM T run ev x px args loc p.st):=by
 have c2 {args:List Expr}:SE X.e p (eval (.Call (.Name x px) args [] pos) env) (qt T run ev x px args loc p.st):=Hv g.hh g.hs g.tok g.hrun he R F
 induction args using List.casesOn with
 |nil=>exact c2
 |cons a l=>induction l using List.casesOn with
  |nil=>exact gx (λ q hq=>by obtain rfl:=oJ hq;exact vm g.hh he R F) c2
  |cons b l=>
   exact fH (λ h=>by
    obtain rfl:=cn (aE.mp h).1
    exact gx (λ ts ht=>by obtain⟨m,ps,rfl⟩:=aT (P:=λ ts=>∃m ps,b= .Tuple ts m ps) Ak ht;exact Gu he R F) c2) c2
theorem DD(g:kb X T run){ev:dh}(he:HE X env ev)(R:X.rep p)(F:ax X p env loc){o:Expr}{name:Str}{apos:Pos}{args:List Expr}:SE X.e p (eval (.Call (.Attribute o name apos) args [] pos) env) (IN T run ev o name apos pos args loc p.st):=by
 have c2 {args:List Expr}:SE X.e p (eval (.Call (.Attribute o name apos) args [] pos) env) (sM T run ev o name apos pos args loc p.st):=FX g.hs g.tok g.hrun he R F
 induction args using List.casesOn with
 |nil=>exact c2
 |cons a l=>induction l using List.casesOn with
  |nil=>exact gx (λ q hq=>by obtain rfl:=oJ hq;exact zn g.hh he R F) c2
  |cons b l=>exact fH (λ _=>Fg g.hr g.hs he R F) c2
theorem DA{P:List CmpOp→List Expr→((α→St→aD)→aD)→Prop}{f1:CmpOp→Expr→Loc→St→(α→St→aD)→aD}{f2:CmpOp→CmpOp→Expr→Expr→Loc→St→(α→St→aD)→aD}(h0:∀os rs,P os rs λ _=>.no)(h1:∀o r,P [o] [r] (f1 o r loc st))(h2:∀o1 o2 r1 r2,P [o1,o2] [r1,r2] (f2 o1 o2 r1 r2 loc st))(os:List CmpOp)(rs:List Expr):P os rs (PZ f1 f2 os rs loc st):=by
 induction os using List.casesOn with
 |nil=>exact h0 _ _
 |cons o1 os=>induction rs using List.casesOn with
  |nil=>exact h0 _ _
  |cons r1 rs=>induction os using List.casesOn with
   |nil=>exact fH (P:=P _ _) (λ h=>by obtain rfl:=cn h;exact h1 _ _) (h0 _ _)
   |cons o2 os=>induction rs using List.casesOn with
    |nil=>exact h0 _ _
    |cons r2 rs=>
     exact fH (P:=P _ _) (λ h=>by
      obtain rfl:=cn (aE.mp h).1
      obtain rfl:=cn (aE.mp h).2
      exact h2 _ _ _ _) (h0 _ _)
theorem EF(hs:sysModules<X.h₁.objs.size){ev:dh}(he:HE X env ev)(R:X.rep p)(F:ax X p env loc){mb:Bool}{a i:Expr}:SE X.e p (eval (.Subscript a i pos) env) (H4 mb ev a i loc p.st):=by
 induction i using Expr.casesOn with
 |Slice l u st ps2=>
  induction st using Option.casesOn with
  |none=>exact K1 he R F
  |some s=>exact Ay hs he R F
 |_=>exact Ay hs he R F
theorem G6(g:kb X T run)(hns:env.scope.names=ns)(h:pP X evN etN)(R:X.rep p)(F:ax X p env loc)(e:Expr):SE X.e p (eval e env) (NF T run evN etN ns e loc p.st):=by
 have he:HE X env (evN ns):=h.e X.P env ns hns
 have ht:HT X env (etN ns):=h.t X.P env ns hns
 induction e using Expr.casesOn with
 |Name x px=>exact FU hns g.tok R F
 |Constant c k ps=>exact Dh R
 |BinOp l op r ps=>exact Lc he R F
 |Compare l os rs ps=>exact DA (P:=λ os rs c=>SE X.e p (eval (.Compare l os rs ps) env) c) (λ _ _=>pV) (λ _ _=>K5 g.hr g.hs he R F) (λ _ _ _ _=>Dz g.hr g.hs he R F) os rs
 |UnaryOp op x ps=>exact Mb he R F
 |BoolOp op es ps=>
  induction op using BoolOp.casesOn with
  |And=>exact Lq he _ p R F
  |Or=>exact ML he _ p R F
 |IfExp t b o ps=>exact Np ht he R F
 |Tuple es m ps=>exact Aj he R F
 |List es ps=>exact J5 he R F
 |Dict ks vs ps=>
  exact fH (λ h=>by
   obtain rfl:=cn (aE.mp h).1
   obtain rfl:=cn (aE.mp h).2
   exact fH (λ _=>Fi R) (KZ R)) pV
 |Subscript a i ps=>exact EF g.hs he R F
 |Attribute o a ps=>exact HF g.tok he R F
 |ListComp elt gens sc ps=>exact xo g.hh g.hs hns h R F
 |Call f args kw ps=>
  exact fH (λ h=>by
   obtain rfl:=cn h
   induction f using Expr.casesOn with
   |Name x px=>exact DC g he R F
   |Attribute o nm ap=>exact DD g he R F
   |_=>exact pV) pV
 |_=>exact pV
theorem G2(g:kb X T run)(hns:env.scope.names=ns)(h:pP X evN etN)(R:X.rep p)(F:ax X p env loc)(e:Expr):ST X.e p (isTrue e env (eval e env)) (NB evN etN ns e loc p.st):=by
 have he:HE X env (evN ns):=h.e X.P env ns hns
 have ht:HT X env (etN ns):=h.t X.P env ns hns
 induction e using Expr.casesOn with
 |Compare l os rs ps=>exact DA (P:=λ os rs c=>ST X.e p (isTrue (.Compare l os rs ps) env (eval (.Compare l os rs ps) env)) c) (λ _ _=>wW) (λ _ _=>K4 g.hr g.hs he R F) (λ _ _ _ _=>Dx g.hr g.hs he R F) os rs
 |UnaryOp op x ps=>
  induction op using UnaryOp.casesOn with
  |Not=>exact JI ht R F
  |_=>exact wW
 |BoolOp op es ps=>
  induction op using BoolOp.casesOn with
  |And=>exact Lo ht _ p R F
  |Or=>exact MK ht _ p R F
 |IfExp t b o ps=>exact Nn ht R F
 |Name x px=>exact ko he R F rfl
 |Call f args kw ps=>exact ko he R F rfl
 |Subscript a i ps=>exact ko he R F rfl
 |Attribute o a ps=>exact ko he R F rfl
 |_=>exact wW
theorem tz(T:cV)(run:ee)(n:Nat):∀X:Cx,kb X T run→pP X (lc T run n).e (lc T run n).t:=by
 induction n with
 |zero=>exact λ X g=>⟨λ P' env ns hns e loc p R F=>pV,λ P' env ns hns e loc p R F=>wW⟩
 |succ n ih=>exact λ X g=>⟨λ P' env ns hns e loc p R F=>G6 (g.withP P') hns (ih _ (g.withP P')) R F e,λ P' env ns hns e loc p R F=>G2 (g.withP P') hns (ih _ (g.withP P')) R F e⟩
end
end
section
open PySem.Spec
variable{n:Nat}{X:Cx}{T:cV}{d:D}
inductive N8(t:Expr)(r:Expr×Expr):Prop
 |mk (pos:Pos) (e:t= .Subscript r.1 r.2 pos)
theorem xO{t:Expr}:b6 (N8 t) (Az t):=by
 induction t using Expr.casesOn with
 |Subscript o i pos=>exact .cond λ _=>N8.mk pos rfl
 |_=>exact ag
theorem MM{a b:Bool}{c:Prop}(h:(a||b)=false)(k:a=false→b=false→c):c:=k (Bool.or_eq_false_iff.mp h).1 (Bool.or_eq_false_iff.mp h).2
section
variable{X:Cx}{env:Env}{evN:jD}{etN:jC}{p:Pt}{loc:Loc}{pos:Pos}{T:cV}{run:ee}{ns:cr}
theorem md{t:Sem Flow}:SS X env p t (λ _=>.no):=λ k out hc ho=>absurd hc.symm ho
theorem zL(g:kb X T run)(ok:X.ok)(hns:env.scope.names=ns)(hW:kc true env X.W)(h:pP X evN etN)(R:X.rep p)(F:ax X p env loc){t value:Expr}:SS X env p (exec (.Assign [t] value pos) env) (DU T evN etN ns t value loc p.st):=
 have he:HE X env (evN ns):=h.e X.P env ns hns
 fH (λ h1=>Dm ok g.hh g.hs hns hW g.tok h R F h1) (by
  unfold cond
  induction h2:ie value||eR t using Bool.casesOn with
  |true=>exact md
  |false=>exact MM h2 λ ha hb=>gx (λ r hr=>by obtain⟨pos,rfl⟩:=aT xO hr;exact E9 ok g.hr he R F ha) (DT ok g.hh hns hW g.tok he R F ha hb))
theorem zj(g:kb X T run)(ok:X.ok)(hns:env.scope.names=ns)(hW:kc true env X.W){ev:dh}(he:HE X env ev){eb:rU}(hb:∀P',(∀a,X.W a→P' a)→HB (X.withP P') env eb)(R:X.rep p)(F:ax X p env loc){target iter:Expr}{body:List Stmt}:
  SS X env p (exec (.For target iter body [] pos) env) (CU ns ev eb target iter body loc p.st):=
 gx (λ q hq=>by obtain rfl:=oJ hq;exact Ga ok g.hh hns hW he hb R F) (KJ ok g.hh hns hW he hb R F)
theorem G4(g:kb X T run)(ok:X.ok)(hns:env.scope.names=ns)(hW:kc true env X.W)(h:pP X evN etN){eb:rU}(hb:∀P',(∀a,X.W a→P' a)→HB (X.withP P') env eb)(R:X.rep p)(F:ax X p env loc)(s:Stmt):SS X env p (exec s env) (NC T evN etN eb ns s loc p.st):=by
 have he:HE X env (evN ns):=h.e X.P env ns hns
 have ht:HT X env (etN ns):=h.t X.P env ns hns
 have hb0:HB X env eb:=hb X.P ok
 induction s using Stmt.casesOn with
 |Expr e ps=>exact GV he R F
 |Return o ps=>induction o using Option.casesOn with
  |none=>exact E6 R
  |some e=>exact Jv he R F
 |If t b o ps=>exact No ht hb0 R F
 |While t b o ps=>exact fH (λ h=>cn h▸z5 ht hb0 R F) md
 |For target iter body o ps=>exact fH (λ h=>cn h▸zj g ok hns hW he hb R F) md
 |Assign ts value ps=>induction ts using List.casesOn with
  |nil=>exact md
  |cons t l=>exact fH (λ h=>cn h▸zL g ok hns hW ‹_› R F) md
 |AugAssign t op e ps=>exact gx (λ n hn=>aT (P:=λ n:Str×Pos=>t= .Name n.1 n.2) qN hn▸Lj ok hns hW he R F) md
 |_=>exact md
theorem on(T:cV)(run:ee)(n:Nat):∀(X:Cx) (env:Env) (ns:cr),kb X T run→X.ok→env.scope.names=ns→kc true env X.W→Qj X env (ec T run n ns):=by
 induction n with
 |zero=>exact λ X env ns g ok hns hW s loc p R F=>md
 |succ n ih=>exact λ X env ns g ok hns hW s loc p R F=>G4 g ok hns hW (tz T run n X g) (λ P' hP=>gU (ih (X.withP P') env ns (g.withP P') hP hns hW)) R F s
end
structure dP(X:Cx)(T:cV)(n:Nat):Prop where
 hh:X.A.handled=none
 hs:sysModules<X.h₁.objs.size
 tok:eD X T
 lim:X.h₁.NoLimit
 depth:X.A.depth+n<recursionLimit
 units:X.A.units+12*n+80<cLine
theorem dP.withP(r:dP X T n)(P':Addr→Prop):dP (X.withP P') T n:=⟨r.hh,r.hs,r.tok,r.lim,r.depth,r.units⟩
theorem qr{d k l:Nat}(h:d+(n+1)<l):d+1+n<l:=by rw[cI,Nat.add_comm 1 n];exact h
theorem r8{d k l:Nat}(hk:k≤12)(h:d+12*(n+1)+80<l):d+k+12*n+80<l:=aA (eY (by rw[cI,Nat.mul_succ,Nat.add_comm k];exact aO (aO hk _) _) 80) h
theorem dP.inCall(r:dP X T (n+1))(env:Env):dP (X.inCall env) T n:=⟨r.hh,r.hs,r.tok,r.lim,qr (k:=0) r.depth,r8 (k:=3) (by decide) r.units⟩
theorem dP.inMake(r:dP X T (n+1))(C:Addr)(vs:List Value):dP (X.inMake C vs) T n:=⟨r.hh,r.hs,r.tok,r.lim,qr (k:=0) r.depth,r8 (k:=1) (by decide) r.units⟩
section
variable{X:Cx}{T:cV}{p:Pt}{vs:List Value}{ds:List D}
theorem m8(x:List D):∀{y:List Str},mI x y=true→x.length=y.length:=by
 induction x with
 |nil=>exact λ h=>cn h▸rfl
 |cons d x ih=>
  intro y h
  induction y using List.casesOn with
  |nil=>exact ftK h
  |cons s y=>exact ae (·+1) (ih h)
theorem sR{f:D→Option D}{a b:List D}(h:cq f a=some b):b.length=a.length:=aT (P:=λ b=>b.length=a.length) (gK (P:=λ a b=>b.length=a.length) rfl (λ x r=>.any λ y s h=>ae (·+1) h) a) h
theorem KD{o:aD}{r:D×St}(h:o.get=some r):o= .val r.1 r.2:=by
 induction o using aD.casesOn with
 |val d st=>obtain rfl:=an h;rfl
 |_=>exact nsK h
theorem vU{run:ee}{f:Fn}{st st':St}(h:af (zq T run f ds st)= .val d st'):KV T run f ds st=some (d,st'):=ae aD.get h
theorem vV(r:dP X T (n+1)){run:ee}(hrun:∀Y:Cx,dP Y T n→j9 Y run){fa:Addr}{f:Fn×oY}(hf:T.fn fa=some f)(hlen:ds.length=f.1.params.length)(R:X.rep p)(hv:X.denL p vs ds){d:D×St}(h:KV T run f.1 ds p.st=some d):GC X.e p (.ref fa) vs d.1 d.2:=
 Hs r.hh (aA (aB _ _) r.depth) r.lim R (r.tok.fns fa f hf).1 (r.tok.fns fa f hf).2 hv hlen (KD h) λ env q hq hns hW ok Rq Fq=>
  have ri:=r.inCall env
  hq▸gU (on T run 40 (X.inCall env) env f.1.ns ⟨ri.hh,ri.hs,aA (eY (aB _ _) 80) ri.units,ri.tok,hrun _ ri⟩ ok hns hW) f.1.body (jS f.1.params ds) q Rq Fq
noncomputable def HL(X:Cx)(p:Pt)(fa:Addr)(vs:List Value)(r:D×St):Prop:=GC X.e p (.ref fa) vs r.1 r.2
theorem E3(r:dP X T (n+1)){run:ee}(hrun:∀Y:Cx,dP Y T n→j9 Y run){fa:Addr}{f:Fn×oY}(hf:T.fn fa=some f)(R:X.rep p)(hv:X.denL p vs ds):b6 (HL X p fa vs) (x4 T run f.1 f.2 ds p.st):= .cond λ hl=>by
 have hl:=m8 ds hl
 induction f.2 using oY.casesOn with
 |shared=>exact .all λ d h=>vV r hrun hf hl R hv h
 |iso=>exact .bnd λ ds' hz=>.bnd λ r2 h=>.mp λ d' hd=>tQ (st:=r2.2) R r.hs hv hz (λ P'' _ Rb hvb=>vV (X:=X.withP P'') (r.withP P'') hrun hf ((sR hz).trans hl) Rb hvb h) hd
 |isoA=>exact .bnd λ ds' hz=>.bnd λ r2 h=>.cond λ ha=>zH (st:=r2.2) R r.hs hv hz (λ Rb hvb=>vV r hrun hf ((sR hz).trans hl) Rb hvb h) ha
theorem Bz(h:d.noneB=true):d= .none:=by
 induction d using D.casesOn with
 |none=>exact rfl
 |_=>exact ftK h
theorem AQ(T:cV)(n:Nat):∀X:Cx,dP X T n→∀fa ds p vs,X.rep p→X.denL p vs ds→b6 (HL X p fa vs) (ay T n fa ds p.st):=by
 induction n with
 |zero=>exact λ X r fa ds p vs R hv=>ag
 |succ n ih=>
  have hrun (Y:Cx) (r:dP Y T n):j9 Y (ay T n):=λ fa ds st d st' h P' p vs R hst hv=>by
   subst hst
   exact aT (P:=HL (Y.withP P') p fa vs) (ih (Y.withP P') (r.withP P') fa ds p vs R hv) h
  exact λ X r fa ds p vs R hv=>.elim (λ f hf=>E3 r hrun hf R hv) (.bnd λ fI hcl=>.bnd λ r2 h=>.cond λ hn=>by
   obtain⟨K,ck,hm,hi,hty,_⟩:=r.tok.clss fa fI hcl
   refine DB R ck hm hi hty hv λ Rq hvq=>Bz hn▸(hrun _ (r.inMake fa vs)).atC h Rq hvq)
theorem E2(T:cV)(n:Nat)(X:Cx)(r:dP X T n):j9 X (ay T n):=λ fa ds st d st' h P' p vs R hst hv=>by
 subst hst
 exact aT (P:=HL (X.withP P') p fa vs) (AQ T n (X.withP P') (r.withP P') fa ds p vs R hv) h
end
end
section
open PySem.Spec
noncomputable def bZ:List Stmt→Nat→Stmt
 |[],_=>.Pass ⟨0,0,0,0⟩
 |s::_,0=>s
 |_::r,n+1=>bZ r n
noncomputable def N7:List Arg→List Str
 |[]=>[]
 |a::r=>a.arg::N7 r
noncomputable def fnS:Stmt→Fn
 | .FunctionDef _ a b _ _ _ sc _ _ _=>⟨N7 a.args,sc.names,b⟩
 |_=>⟨[],[],[]⟩
noncomputable def PY:Stmt→List Stmt
 | .ClassDef _ _ _ b _ _ _ _ _ _ _=>b
 |_=>[]
noncomputable def bj(i:Nat):Fn:=fnS (bZ PySem.Challenge.pw_sm0009_01.main.body i)
noncomputable def vf(i j:Nat):Fn:=fnS (bZ (PY (bZ PySem.Challenge.pw_sm0009_01.main.body i)) j)
noncomputable def S(x:String):Str:=Str.ofString x
noncomputable def tu:List (Addr×(Fn×oY)):=[
 (29,(bj 7,.iso)),(36,(bj 9,.iso)),(43,(bj 10,.iso)),(50,(bj 11,.iso)),(55,(bj 12,.iso)),(65,(bj 14,.iso)),(70,(bj 15,.iso)),(77,(bj 16,.iso)),(84,(bj 17,.iso)),(91,(bj 18,.shared)),(98,(bj 19,.iso)),(103,(bj 20,.iso)),
 (161,(bj 28,.iso)),(168,(bj 29,.iso)),(182,(bj 31,.iso)),(189,(bj 32,.iso)),(196,(bj 33,.iso)),
 (210,(vf 35 0,.shared)),(224,(bj 36,.shared)),(231,(bj 37,.shared)),(238,(bj 38,.shared)),(245,(bj 39,.shared)),(252,(bj 40,.shared)),(259,(bj 41,.shared)),(266,(bj 42,.shared)),(273,(bj 43,.shared)),(287,(bj 45,.shared)),(294,(bj 46,.shared)),
 (372,(bj 61,.iso)),(379,(bj 63,.iso)),(386,(bj 64,.iso)),(428,(bj 70,.iso)),(435,(bj 71,.iso)),
 (449,(vf 74 0,.shared)),(463,(bj 75,.shared)),(470,(bj 76,.isoA)),(477,(bj 77,.isoA)),(484,(bj 78,.shared)),(491,(bj 79,.iso)),(498,(bj 80,.shared)),(505,(bj 81,.shared)),(512,(bj 82,.shared)),(517,(bj 83,.shared)),(522,(bj 84,.shared)),(530,(bj 85,.shared)),(537,(bj 86,.shared)),(544,(bj 87,.shared)),(551,(bj 88,.iso)),
 (559,(bj 91,.shared)),(566,(bj 92,.shared)),(573,(bj 93,.shared)),(580,(bj 94,.shared)),(587,(bj 95,.shared)),
 (601,(vf 96 0,.shared)),(608,(vf 96 1,.shared)),(615,(vf 96 2,.shared)),(622,(vf 96 3,.shared)),(629,(vf 96 4,.shared)),(636,(vf 96 5,.shared)),(643,(vf 96 6,.shared)),
 (655,(bj 98,.iso)),(660,(bj 99,.iso)),(667,(bj 101,.shared)),(672,(bj 102,.isoA)),(679,(bj 103,.iso)),(684,(bj 104,.iso)),(691,(bj 105,.iso))]
noncomputable def ii:List (Str×D):=[
 (S "isinstance",.val (.builtin "isinstance")),(S "len",.val (.builtin "len")),(S "int",.val (.type "int")),(S "str",.val (.type "str")),(S "tuple",.val (.type "tuple")),(S "bool",.val (.type "bool")),(S "list",.val (.type "list")),(S "dict",.val (.type "dict")),
 (S "reversed",.val (.type "reversed")),(S "range",.val (.type "range")),(S "enumerate",.val (.type "enumerate")),(S "zip",.val (.type "zip")),(S "max",.val (.builtin "max")),(S "sorted",.val (.builtin "sorted")),
 (S "is_whole_xref",.val (.ref 29)),(S "name_of_tree",.val (.ref 36)),(S "is_tree",.val (.ref 43)),(S "names_read",.val (.ref 50)),(S "set_trees",.val (.ref 55)),(S "own_uses",.val (.ref 65)),(S "read_parts",.val (.ref 70)),(S "goals_of",.val (.ref 77)),(S "all_statements",.val (.ref 84)),(S "noted",.val (.ref 91)),(S "cross_reference",.val (.ref 98)),(S "never_set",.val (.ref 103)),
 (S "fits",.val (.ref 161)),(S "whole_of",.val (.ref 168)),(S "is_nought",.val (.ref 182)),(S "is_true",.val (.ref 189)),(S "sign_of",.val (.ref 196)),(S "Flat",.val (.ref 213)),(S "put_row_of",.val (.ref 224)),(S "put_if",.val (.ref 231)),(S "put_all",.val (.ref 238)),(S "gather",.val (.ref 245)),(S "join_rows",.val (.ref 252)),(S "end_loops",.val (.ref 259)),(S "flatten",.val (.ref 266)),(S "place_of",.val (.ref 273)),(S "end_of_while",.val (.ref 287)),(S "next_of_for",.val (.ref 294)),
 (S "is_whole_arith",.val (.ref 372)),(S "settled",.val (.ref 379)),(S "whole_reckoned",.val (.ref 386)),(S "reckoned",.val (.ref 428)),(S "order_of",.val (.ref 435)),(S "Control",.val (.ref 452)),(S "put_upon",.val (.ref 463)),(S "floor_of",.val (.ref 470)),(S "found_at",.val (.ref 477)),(S "cut_to",.val (.ref 484)),(S "is_past",.val (.ref 491)),(S "for_begin",.val (.ref 498)),(S "for_name",.val (.ref 505)),(S "for_next",.val (.ref 512)),(S "while_begin",.val (.ref 517)),(S "while_end",.val (.ref 522)),(S "wend_place",.val (.ref 530)),(S "gosub",.val (.ref 537)),(S "return_place",.val (.ref 544)),(S "chosen",.val (.ref 551)),
 (S "do_flow",.val (.ref 559)),(S "do_jump",.val (.ref 566)),(S "do_loop",.val (.ref 573)),(S "do_for",.val (.ref 580)),(S "next_from",.val (.ref 587)),(S "FlowRun",.val (.ref 646)),(S "steps_between",.val (.ref 655)),(S "unmet",.val (.ref 660)),(S "_law_reach",.val (.ref 667)),(S "_law_worth",.val (.ref 672)),(S "_law_line",.val (.ref 679)),(S "_law_allowed",.val (.ref 684)),(S "_law_come_to",.val (.ref 691)),(S "_law_noted",.val (.ref 696)),
 (S "SET_TREES",.dct [(.str (S "LET"),.tup [.int 1]),(.str (S "MIDSET"),.tup [.int 1]),(.str (S "SWAP"),.tup [.int 1,.int 2])]),
 (S "SET_LISTS",.dct [(.str (S "READ"),.int 1),(.str (S "INPUT"),.int 4),(.str (S "LINE"),.int 4)]),
 (S "SET_WORDS",.dct [(.str (S "FOR"),.int 1),(.str (S "LSET"),.int 1),(.str (S "RSET"),.int 1)]),
 (S "USED_WORDS",.dct [(.str (S "NEXT"),.int 1),(.str (S "COMMON"),.int 1)]),
 (S "GOAL_PLACES",.dct [(.str (S "GOTO"),.int 1),(.str (S "GOSUB"),.int 1),(.str (S "RETURN"),.int 1),(.str (S "RESTORE"),.int 1),(.str (S "RESUME"),.int 1),(.str (S "ONERR"),.int 1)]),
 (S "JUMPS",.tup [.str (S "IFNOT"),.str (S "JUMP"),.str (S "GOTO"),.str (S "GOSUB"),.str (S "ONGO"),.str (S "RETURN")]),
 (S "MOST_NUMBER",.int 255)]
noncomputable def JY:List Nat→Nat→Bool
 |[],_=>false
 |a::r,n=>Nat.beq a n||JY r n
noncomputable def aP:cV where
 glob:=ii
 fns:=tu
 meths:=[(646,[(S "worth",608),(S "whole",615),(S "value_of_name",622),(S "store",629),(S "plus",636),(S "go",643)])]
 attrs:=[(213,[(S "rows",()),(S "places",()),(S "data",()),(S "pairs",()),(S "loops",()),(S "fns",())]),(452,[(S "pile",()),(S "most",()),(S "failed_at",())]),(646,[(S "flat",()),(S "values",()),(S "worth_of",()),(S "bits",()),(S "digits",()),(S "control",()),(S "notes",())])]
 clss:=[(213,210),(452,449),(646,601)]
 bnds:=[(646,[(S "plus",636)])]
 pb:=JY [543]
 mb:=JY [20,46,85,94,182,184,208,367,385,507,580,597]
end
section
open PySem.Spec
abbrev Sp:=Option (D×St)
noncomputable def au:Nat→List Sp→List Sp
 |0,l=>l
 |n+1,l=>none::au n l
noncomputable def gv(d:D)(st:St):Sp:=some (d,st)
noncomputable def Tr(fin:aD):List Sp→aD→Prop
 |[],out=>out=fin
 |x::s,out=>out.casesOn (λ _ _=>False) False λ o k=>x.elim (o.elim False λ r=>Tr fin s (k r.1 r.2)) λ r=>o=some r∧Tr fin s (k r.1 r.2)
theorem dB{fin:aD}(s:List Sp):∀{out:aD},Tr fin s out→af out=af fin:=by
 induction s with
 |nil=>exact λ h=>ae af h
 |cons x s ih=>
  intro out h
  induction out using aD.casesOn with
  |node o k=>
   induction x using Option.casesOn with
   |none=>induction o using Option.casesOn with
    |none=>exact h.elim
    |some r=>exact ih (out:=k r.1 r.2) h
   |some r=>
    obtain⟨rfl,h⟩:=(h:o=some r∧_)
    exact ih (out:=k r.1 r.2) h
  |_=>exact h.elim
section
variable{T:cV}{n:Nat}{fa:Addr}{f:Fn}{m:oY}{ds ds':List D}{d d':D}{st st':St}
theorem uE(hf:T.fn fa=some (f,m)):ay T (n+1) fa ds st=x4 T (ay T n) f m ds st:=by
 show Option.elim (T.fn fa) _ _=_
 rw[hf]
 rfl
theorem bw(h:af (zq T (ay T n) f ds st)= .val d st')(hf:T.fn fa=some (f,.shared):=by kernel_rfl)(hl:mI ds f.params=true:=by kernel_rfl):ay T (n+1) fa ds st=some (d,st'):=by
 rw[uE hf]
 unfold x4
 rw[hl]
 exact vU h
theorem eJ(hz:cq (frz [] 12) ds=some ds')(h:af (zq T (ay T n) f ds' ⟨[],0⟩)= .val d st')(hd:frz st'.σ 12 d=some d')(hf:T.fn fa=some (f,.iso):=by kernel_rfl)(hl:mI ds f.params=true:=by kernel_rfl):ay T (n+1) fa ds st=some (d',st):=by
 rw[uE hf]
 unfold x4
 rw[hl,hz]
 show(Option.bind (KV ..) _)=_
 rw[vU h]
 exact ae (Option.map λ d'=>(d',st)) hd
theorem lw(hf:T.fn fa=some (f,.isoA))(hl:mI ds f.params=true)(hz:cq (frz st.σ 12) ds=some ds')(h:af (zq T (ay T n) f ds' ⟨[],0⟩)= .val d st')(hd:jo d=true):ay T (n+1) fa ds st=some (d,st):=by
 rw[uE hf]
 unfold x4
 rw[hl,hz]
 show(Option.bind (KV ..) _)=_
 rw[vU h]
 show cond (jo d) _ _=_
 rw[hd]
 rfl
end
theorem pz(n:Nat)(z:Int)(st:St):ay aP (n+1) 182 [.int z] st=some (.bool (d5 z 0),st):=
 eJ (f:=bj 31) (ds':=[.int z]) (by kernel_rfl) (d:= .bool (d5 z 0)) (st':=⟨[],0⟩) (by kernel_rfl) (by kernel_rfl)
theorem mo(n:Nat)(z:Int)(st:St):ay aP (n+2) 189 [.int z] st=some (.bool (!d5 z 0),st):=by
 refine eJ (f:=bj 32) (ds':=[.int z]) (by kernel_rfl) (d:= .bool (!d5 z 0)) (st':=⟨[],0⟩) (dB [gv (.bool (d5 z 0)) ⟨[],0⟩] (fin:= .val (.bool (!d5 z 0)) ⟨[],0⟩) ?_) (by kernel_rfl)
 have e:Tr (.val (.bool (!d5 z 0)) ⟨[],0⟩) [gv (.bool (d5 z 0)) ⟨[],0⟩] (zq aP (ay aP (n+1)) (bj 32) [.int z] ⟨[],0⟩)=(ay aP (n+1) 182 [.int z] ⟨[],0⟩=some (.bool (d5 z 0),⟨[],0⟩)∧aD.val (.bool (!d5 z 0)) ⟨[],0⟩= .val (.bool (!d5 z 0)) ⟨[],0⟩):=by kernel_rfl
 rw[e]
 exact⟨pz n z _,rfl⟩
end
section
open PySem.Spec
variable{l outer:List Env}{g h:Heap}{a T:Addr}{m:SV}{fs:List Addr}{env:Env}{Q:Unit→Shared→Prop}
abbrev fu(l:List Env):List Addr:=l.filterMap (·.frame)
inductive FrV(g:Heap)(env:Env):Prop
 |mk (hk:env.scope.kind≠.module) (L:Addr) (o:Obj) (es:Array DictEntry) (n:Nat) (hf:env.frame=some L) (ho:g.get? L=some o) (hd:o.data= .dict es n)
noncomputable def eH(g:Heap)(l:List Env):Prop:=∀env∈l,FrV g env
inductive D9(g:Heap)(L:Addr):Prop
 |mk (o:Obj) (es:Array DictEntry) (n:Nat) (ho:g.get? L=some o) (hd:o.data= .dict es n)
theorem eH.via(k:∀L∈fu l,∀o,g.get? L=some o→∃sl,h.get? L=some {o with slots:=sl})(F:eH g l):eH h l:=λ env hm=>
 let⟨hk,L,o,es,n,hf,ho,hd⟩:=F env hm
 let⟨sl,ho'⟩:=k L (List.mem_filterMap.mpr ⟨env,hm,hf⟩) o ho
 ⟨hk,L,_,es,n,hf,ho',hd⟩
theorem eH.mem(F:eH g l)(L:Addr)(h:L∈fu l):D9 g L:=by
 obtain⟨env,hm,e⟩:=List.mem_filterMap.mp h
 obtain⟨_,L',o,es,n,hf,ho,hd⟩:=F env hm
 obtain rfl:=an (hf.symm.trans e)
 exact⟨o,es,n,ho,hd⟩
theorem eH.fun:eH g l→g.FunFrames {objs:= #[]} l:=by
 induction l with
 |nil=>exact λ _=>ag
 |cons env r ih=>exact λ F=>let⟨hk,L,o,es,n,hf,ho,hd⟩:=F env (aF ..);⟨hk,⟨L,o,hf,rfl,ho,λ vs q=>Data.noConfusion (hd.symm.trans q)⟩,ih λ e h=>F e (aK _ h)⟩
structure Em(new fs:List Addr)(h h':Heap):Prop where
 size:h.objs.size≤h'.objs.size
 out:∀b o,h.get? b=some o→b∉new→b∉fs→h'.get? b=some o
 all:∀b o,h.get? b=some o→b∉new→∃sl,h'.get? b=some {o with slots:=sl}
inductive rL(g h:Heap)(e:Addr)(v:Value):Prop
 |none (hv:v= .none)
 |ref (T:Addr) (oT:Obj) (ts:Array Value) (hv:v= .ref T) (hg:g.get? T=none) (ne:T≠e) (ho:h.get? T=some oT) (hd:oT.data= .fields ts) (sz:3<ts.size)
inductive Ox(g h:Heap)(C e dd:Addr):Prop
 |mk (oe:Obj) (vs:Array Value) (tb:Value) (he:h.get? e=some oe) (hc:oe.cls= .ref C) (hdd:oe.dict=some dd) (hd:oe.data= .fields vs) (h1:vs[1]?=some tb) (t:rL g h e tb)
inductive xD(h:Heap)(e:Addr):Prop
 |mk (oe:Obj) (vs:Array Value) (T:Addr) (he:h.get? e=some oe) (hd:oe.data= .fields vs) (h1:vs[1]?=some (.ref T))
structure nv(g:Heap)(fs:List Addr)(h:Heap)(C e dd:Addr)(m:SV):Prop extends Em [] fs g h where
 new:g.get? e=none
 d1:g.objs.size≤dd
 e1:g.objs.size≤e
 ns:h.Ns1 dd m
 v:Ox g h C e dd
theorem oA(f:Array Value→Array Value)(o:Obj):(o.mapFields f).dict=o.dict:=by
 obtain⟨c,d,dt,sl⟩:=o
 induction dt using Data.casesOn<;>exact rfl
theorem Bt{h':Heap}(x:h.Ns1 a m)(k:∀o,h.get? a=some o→∃sl,h'.get? a=some {o with slots:=sl}):h'.Ns1 a m:=let⟨o,es,ep,e,r⟩:=x;let⟨sl,e'⟩:=k o e;⟨{o with slots:=sl},es,ep,e',r⟩
theorem Ie{b:Addr}{o:Obj}{ts:Array Value}(x:h.Ns1 a m)(hb:h.get? b=some o)(hd:o.data= .fields ts):b≠a:=λ q=>by
 obtain⟨o',es,ep,ho,hd',_⟩:=x
 obtain rfl:=an (hb.symm.trans (q▸ho))
 exact Data.noConfusion (hd.symm.trans hd')
theorem Em.trans{new:List Addr}{k:Heap}(x:Em new fs g h)(y:Em new fs h k):Em new fs g k:=
 ⟨ad x.size y.size,λ b o hb hn hf=>y.out b o (x.out b o hb hn hf) hn hf,λ b o hb hn=>let⟨sl,h⟩:=x.all b o hb hn;y.all b {o with slots:=sl} h hn⟩
theorem Em.same{new:List Addr}{h':Heap}(hs:h.objs.size≤h'.objs.size)(k:∀b o,h.get? b=some o→b∉new→h'.get? b=some o):Em new fs h h':=⟨hs,λ b o hb hn _=>k b o hb hn,λ b o hb hn=>⟨o.slots,k b o hb hn⟩⟩
theorem Em.upd(a:Addr)(f:Obj→Obj):Em [a] fs h (h.update a f):= .same (aM (Heap.size_after_update ..).symm) λ b o hb hn=>(bt _ _ λ e=>hn (aC.mpr e.symm)).trans hb
section
variable{M:Model}{A:Around}{E:VS}{s:Shared}{g h h':Heap}{fs:List Addr}{C e dd:Addr}{m:SV}
theorem nv.to(F:nv g fs h C e dd m){new:List Addr}(A:Em new fs h h')(hX:∀b∈new,g.get? b=none∧b≠dd)(v:Ox g h' C e dd):nv g fs h' C e dd m:=
 have nx {b:Addr} {o:Obj} (hb:g.get? b=some o):b∉new:=λ m=>snK (hb.symm.trans (hX b m).1)
 ⟨⟨ad F.size A.size,λ b o hb hn hf=>A.out b o (F.out b o hb hn hf) (nx hb) hf,λ b o hb hn=>let⟨sl,h⟩:=F.all b o hb hn;A.all b {o with slots:=sl} h (nx hb)⟩,
  F.new,F.d1,F.e1,Bt F.ns λ o h=>A.all dd o h λ m=>(hX dd m).2 rfl,v⟩
theorem wQ{dd:Addr}(hn:g.get? T=none)(hd:T≠dd):∀b∈[T],g.get? b=none∧b≠dd:=λ b hb=>aC.mp hb▸⟨hn,hd⟩
theorem tw(F:nv g fs h C e dd m){T:Addr}{oT:Obj}{ts:Array Value}(hT:h.get? T=some oT)(hd:oT.data= .fields ts)(hn:g.get? T=none)(hTe:T≠e){i:Nat}{x:Value}:
  nv g fs (h.update T (Obj.mapFields (·.setIfInBounds i x))) C e dd m:=
 F.to (.upd T _) (wQ hn (Ie F.ns hT hd)) (by
  obtain⟨oe,vs,tb,he,hc,hdd,hde,h1,t⟩:=F.v
  refine⟨oe,vs,tb,(bt _ _ hTe).trans he,hc,hdd,hde,h1,?_⟩
  induction t using rL.casesOn with
  |none hv=>exact .none hv
  |ref T' oT' ts' hv hg ne ho hd' sz=>
   by_cases q:T=T'
   ·subst q
    obtain rfl:=an (hT.symm.trans ho)
    exact .ref T _ _ hv hg ne (Heap.get?_update_self _ hT (Obj.isFreed_of_fields (Obj.data_mapFields hd _))) (Obj.data_mapFields hd' _) (Nat.lt_of_lt_of_eq sz Array.size_setIfInBounds.symm)
   ·exact .ref T' oT' ts' hv hg ne ((bt _ _ q).trans ho) hd' sz)
theorem My{vs:Array Value}{tb x:Value}(h1:vs[1]?=some tb):(vs.setIfInBounds 1 x)[1]?=some x:=by
 rw[Array.getElem?_setIfInBounds,aZ rfl,aZ (Array.getElem?_eq_some_iff.mp h1).1]
theorem CZ(F:nv g fs h C e dd m){oT:Obj}{ts:Array Value}(hf:oT.isFreed=false)(hd:oT.data= .fields ts)(sz:3<ts.size):
  nv g fs ((h.push oT).update e (Obj.mapFields (·.setIfInBounds 1 (.ref h.objs.size)))) C e dd m∧xD ((h.push oT).update e (Obj.mapFields (·.setIfInBounds 1 (.ref h.objs.size)))) e:=by
 obtain⟨oe,vs,tb,he,hc,hdd,hde,h1,t⟩:=F.v
 have he₂:=ah (h:=h) oT he
 have hd₃:=Obj.data_mapFields hde (·.setIfInBounds 1 (Value.ref h.objs.size))
 have he₃:=Heap.get?_update_self (Obj.mapFields (·.setIfInBounds 1 (Value.ref h.objs.size))) he₂ (Obj.isFreed_of_fields hd₃)
 exact⟨F.to (.trans (.same (bA .. ▸bT _) λ b o hb _=>ah _ hb) (.upd e _)) (wQ F.new (Ie F.ns he hde))
  ⟨_,_,_,he₃,(Obj.cls_mapFields _ _).trans hc,(oA _ _).trans hdd,hd₃,My h1,.ref h.objs.size oT _ rfl (Heap.get?_none_of_le F.size) (bM (az he))
   ((bt _ _ (aL (az he))).trans (Heap.get?_push_size _ hf)) hd sz⟩,⟨_,_,_,he₃,hd₃,My h1⟩⟩
theorem wY:(Value.ref T !=Value.none)=true:=by simp
theorem qm{L:Addr}(hfr:A.frames=some (env::outer))(hl:eH g (env::outer))(hf:env.frame=some L)(F:nv g (fu (env::outer)) s.heap C e dd m)(h:∀h',nv g (fu (env::outer)) h' C e dd m→xD h' e→Q () {s with heap:=h'}){head:Value}{hn:Bool}:
  wpAny M A (do let a←frameOf env;let pl←entryPlaceOf L hn;let b←EntryCells.newEntry head a .none (rawInt L) .none pl;setField (.ref e) 1 b) Q E s:=
 aa (wpAny_frameOf_fun hfr (eH.fun (hl.via λ L hL o ho=>F.all L o ho nofun)) hf λ h₁ hs₁=>aa (wpAny_entryPlaceOf λ pl hpl=>by
  have hne:e∉fu (env::outer):=λ hm=>let⟨o,_,_,ho,_⟩:=hl.mem e hm;snK (ho.symm.trans F.new)
  have F₁:nv g (fu (env::outer)) h₁ C e dd m:=F.to (new:=[]) ⟨aM hs₁.1.symm,λ b o hb _ hf=>(hs₁.2.1 b hf).trans hb,λ b o hb _=>hs₁.2.2 b o hb⟩ nofun (by
   obtain⟨oe,vs,tb,he,hc,hdd,hde,h1,t⟩:=F.v
   refine⟨oe,vs,tb,(hs₁.2.1 e hne).trans he,hc,hdd,hde,h1,?_⟩
   induction t using rL.casesOn with
   |none hv=>exact .none hv
   |ref T oT ts hv hg ne ho hd sz=>
    obtain⟨sl,ho'⟩:=hs₁.2.2 T oT ho
    exact .ref T _ ts hv hg ne ho' hd sz)
  unfold EntryCells.newEntry newFields
  refine aa (wpAny_newObj_type ?_ (hpl.sizeOk5 _ _ _ _ _))
  obtain⟨oe,vs,tb,he,hc,hdd,hde,h1,t⟩:=F₁.v
  have N:=CZ F₁ (oT:={cls:= .type "traceback",dict:=none,data:= .fields ([head,.ref L,.none,rawInt L,.none]++(if pl.isEmpty then List.replicate 6 Value.none else pl)).toArray}) rfl rfl (by rw[List.size_toArray,List.length_append];exact ao (by decide:3<5) (aB 5 _))
  exact wpAny_setField (ah _ he) hde (Array.getElem?_eq_some_iff.mp h1).1 (h _ N.1 N.2)))
theorem om(hfr:A.frames=some (env::outer))(hl:eH g (env::outer))(F:nv g (fu (env::outer)) s.heap C e dd m)(h:∀h',nv g (fu (env::outer)) h' C e dd m→xD h' e→Q () {s with heap:=h'}):wpAny M A (noteFrame (.ref e) env) Q E s:=by
 obtain⟨_,L,_,_,_,hf,_,_⟩:=hl env (aF ..)
 obtain⟨oe,vs,tb,he,hc,hdd,hde,h1,t⟩:=F.v
 unfold noteFrame
 rw[hf]
 refine aa (wpAny_field he hde h1 ?_)
 induction t using rL.casesOn with
 |none hv=>
  rw[hv,aI (by decide)]
  exact qm hfr hl hf F h
 |ref T oT ts hv hg ne hT hdT h3=>
  rw[hv,aZ wY]
  refine aa (wpAny_field hT hdT (Array.getElem?_eq_getElem h3) ?_)
  by_cases q:(ts[3]==rawInt L)=true
  ·rw[aZ q]
   exact ak (h s.heap F ⟨oe,vs,T,he,hde,hv▸h1⟩)
  ·rw[aI q]
   exact aa (wpAny_setField hT hdT h3 (qm (s:={s with heap:=_}) hfr hl hf (tw F hT hdT hg ne) h))
theorem ij{x:Option Addr}(F:nv g fs s.heap C e dd m)(h:∀h',nv g fs h' C e dd m→Q () {s with heap:=h'}):wpAny M A (setFlight (.ref e) x) Q E s:=by
 obtain⟨oe,vs,tb,he,hc,hdd,hde,h1,t⟩:=F.v
 unfold setFlight
 refine aa (wpAny_field he hde h1 ?_)
 induction t using rL.casesOn with
 |none hv=>
  rw[hv,aI (by decide)]
  exact ak (h _ F)
 |ref T oT ts hv hg ne hT hdT h3=>
  rw[hv,aZ wY]
  exact wpAny_setField hT hdT h3 (h _ (tw F hT hdT hg ne))
theorem tx(hfr:A.frames=some (env::outer))(hl:eH g (env::outer))(F:nv g (fu (env::outer)) s.heap C e dd m)(h:∀h',nv g (fu (env::outer)) h' C e dd m→Q () {s with heap:=h'}):wpAny M A (leaving env (.ref e)) Q E s:=
 aa (om hfr hl F λ h' F' _=>ij (s:={s with heap:=h'}) F' h)
theorem C0(F:nv g fs s.heap C e dd m)(ht:xD s.heap e)(h:∀h',nv g fs h' C e dd m→E (.ref e) {s with heap:=h'}):cameBackBy M A env E (.ref e) s:=by
 obtain⟨oe,vs,T,he,hd,h1⟩:=ht
 unfold cameBackBy
 refine aa (wpAny_field he hd h1 ?_)
 rw[aI (by simp)]
 exact ij F h
end
end
section
open PySem.Spec
open Builtin
variable{ox:Obj}{Q:Fin→Shared→Prop}{name:Str}
section
variable{prog:Program}{w:World}{A:Around}{E:VS}{h:Heap}{g:Array GenState}{d:Drawn}{t:Nat}{os:OsState}
variable{nm q:Str}{C N:Addr}{bs bm:List Value}{hdct:Bool}{sn:List Str}{sub:List Value}{ab:Bool}{col:Option Bool}{dd:Option Addr}{k0 k1 k2 k3 k5:Option Value}{B newId initId:String}
abbrev eS(C t:Addr):Obj:={cls:= .ref C,data:= .fields #[.ref t,.none,.none,.none,.bool false,.none]}
theorem Hz(F:ExcBaseFacts B newId initId bm){mN:SV}{v:Value}{fI:Addr}{oF:Obj}{Q:Fin→Shared→Prop}(hC:h.get? C=some (excClassObj nm q C N bs bm hdct sn sub ab col dd k0 k1 k2 k3 k5 newId))(hn:h.Ns N mN)(hni:mN "__init__"=some (.ref fI))(hF:h.get? fI=some oF)(hFc:oF.cls= .type "function")(hq:wpAny (model prog w) A (call (.ref fI) [.ref (h.objs.size+1),v]) (λ r s'=>r= .none∧Q (.done (.ret (.ref (h.objs.size+1)))) s') E ⟨(h.push {cls:= .type "tuple",data:= .seq [v].toArray}).push (eS C h.objs.size),g,d,t,os⟩):
  wpAny (model prog w) A (Builtin.«type.__call__» ⟨[.ref C,v],[]⟩) Q E ⟨h,g,d,t,os⟩:=by
 repeat (first|with_reducible refine bY hC ?_|with_reducible refine wpAny_madeBy_exc hC ?_|wp_step)
 refine codeAny_call_builtin_code (Code.quiet_builtin _ F.quiet) (wpAny_check_new_sub F hC ?_)
 refine codeAny_exc_new_sub F hC ?_ (by size_fits)
 show wpAny _ _ _ _ _ _
 have hC₁:=ah (eS C h.objs.size) (ah {cls:= .type "tuple",data:= .seq [v].toArray} hC)
 have hF₁:=ah (eS C h.objs.size) (ah {cls:= .type "tuple",data:= .seq [v].toArray} hF)
 have hn₁:((h.push {cls:= .type "tuple",data:= .seq [v].toArray}).push (eS C h.objs.size)).Ns N mN:=
  let⟨o,es,ep,e,r⟩:=hn;⟨o,es,ep,ah _ (ah _ e),r⟩
 have hget:((h.push {cls:= .type "tuple",data:= .seq [v].toArray}).push (eS C h.objs.size)).get? (h.objs.size+1)=some (eS C h.objs.size):=by heap_get
 have hcC:(Value.ref C::bm).contains (.ref C)=true:=by simp
 have hT:(⟨(h.push {cls:= .type "tuple",data:= .seq [v].toArray}).push (eS C h.objs.size),g,d,t,os⟩:Shared).TypeIs (.ref fI) "function":=⟨_,hF₁,hFc⟩
 unfold isInstance
 repeat (first|with_reducible refine bY hget ?_|(with_reducible refine wpAny_isSubtype_exc hC₁ ?_;rw[hcC])|wp_step)
 show wpAny _ _ (typeLookup (.ref C) _) _ _ _
 refine wpAny_typeLookup_exc hC₁ hn₁ F.mroIs F.init.lookup ?_
 rw[hni]
 refine aV (aa ?_)
 unfold bindSpecial
 refine aa (jE hT ?_)
 refine ak ?_
 refine aa (bW hq (λ r s' hr=>?_) λ _ _ x=>x)
 obtain⟨rfl,hr⟩:=hr
 exact ak (ak hr)
end
theorem l8:Slot "wrapper_descriptor" "__get__" "wrapper_descriptor.__get__":= .of (owner:= "wrapper_descriptor") (n:= "__get__") (by rw[typeLookup_type,builtinLookup_eq_fast];kernel_rfl) (by decide+kernel) (by decide+kernel) (by decide+kernel)
  (by first|exact .inl (by decide+kernel)|exact .inr (by decide+kernel)) (by rw[isSubtype_type];kernel_rfl)
theorem rt:entryFor table "wrapper_descriptor.__get__"=some Builtin.«wrapper_descriptor.__get__»:=entryFor_of_tree (by kernel_rfl)
theorem tX(a b c:Value):argsOk "wrapper_descriptor.__get__" ⟨[a,b,c],[]⟩:=by unfold argsOk;kernel_rfl
section
variable{prog:Program}{w:World}{A:Around}{E:VS}{h:Heap}{g:Array GenState}{d:Drawn}{t:Nat}{os:OsState}
theorem I7{x C:Addr}(hx:h.get? x=some ox)(hxc:ox.cls= .ref C)(hi:Looks (model prog w) h (isSubtype (.ref C) (.type "Exception")) true)(hq:Q (.done (.ret (.ref h.objs.size))) ⟨h.push {cls:= .type "method-wrapper",data:= .fields #[.builtin "Exception.__init__",.ref x]},g,d,t,os⟩):
  wpAny (model prog w) A (Builtin.«wrapper_descriptor.__get__» ⟨[.builtin "Exception.__init__",.ref x,.ref C],[]⟩) Q E ⟨h,g,d,t,os⟩:=by
 unfold Builtin.«wrapper_descriptor.__get__»
 have e: ".".intercalate ("Exception.__init__".cutAt '.').dropLast= "Exception":=by decide+kernel
 repeat (first|(with_reducible refine bY hx ?_;rw[hxc])|(rw[e];with_reducible refine Looks.at hi ?_)|(with_reducible refine Looks.at hi ?_)|wp_step)
 exact hq
theorem Ji{so D x C:Addr}{l₀ l:List Value}{K:Frag}{tk:Tok}(hso:h.get? so=some {cls:= .type "super",dict:=none,data:= .fields #[.ref D,.ref x,.ref C],slots:= #[]})(hno:Looks (model prog w) h (opaqueClassAbove (.ref C)) none)(hC:Looks (model prog w) h (mroOf (.ref C)) l₀)(hl:(l₀.dropWhile (· != .ref D)).drop 1=l)(X:K.In h)(hf:alongIn K name l=some (some (.builtin "Exception.__init__")))(hn:(name==("__class__":Str))=false)(hx:h.get? x=some ox)(hxc:ox.cls= .ref C)(hi:Looks (model prog w) h (isSubtype (.ref C) (.type "Exception")) true)(hxC:x≠C)(hq:Q (.done (.ret (.ref h.objs.size))) ⟨h.push {cls:= .type "method-wrapper",data:= .fields #[.builtin "Exception.__init__",.ref x]},g,d,t,os⟩):
  wpAny (model prog w) A (Builtin.«super.__getattribute__» ⟨[.ref so,.str name tk],[]⟩) Q E ⟨h,g,d,t,os⟩:=by
 have hlk:=l8.lookup
 have hne:(Value.ref x==Value.ref C)=false:=by simp[hxC]
 have hdt:({cls:= .type "super",dict:=none,data:= .fields #[.ref D,.ref x,.ref C],slots:= #[]}:Obj).data= .fields #[.ref D,.ref x,.ref C]:=rfl
 have f0:(#[.ref D,.ref x,.ref C]:Array Value)[0]?=some (.ref D):=rfl
 have f1:(#[.ref D,.ref x,.ref C]:Array Value)[1]?=some (.ref x):=rfl
 have f2:(#[.ref D,.ref x,.ref C]:Array Value)[2]?=some (.ref C):=rfl
 have hTf:(⟨h,g,d,t,os⟩:Shared).TypeIs (.builtin "Exception.__init__") "wrapper_descriptor":=by
  show builtinType "Exception.__init__"=_
  kernel_rfl
 unfold Builtin.«super.__getattribute__»
 repeat (first
  |(with_reducible refine wpAny_field hso hdt f0 ?_)|(with_reducible refine wpAny_field hso hdt f1 ?_)|(with_reducible refine wpAny_field hso hdt f2 ?_)
  |(with_reducible refine ks_wpAny_notOpaque hno ?_)
  |(with_reducible refine Looks.at hC ?_;rw[hl])
  |(refine ks_forIn_along X (λ _ _=>rfl) rfl ?_ hf)
  |(with_reducible refine jE hTf ?_)
  |(with_reducible refine wpAny_call_entry l8 hTf rt ?_ (tX _ _ _))
  |(with_reducible refine I7 hx hxc hi ?_)
  |(with_reducible refine⟨_,rfl,?_⟩)
  |(simp only[hn,hne,Bool.or_false,Bool.false_eq_true,if_false])
  |wp_step
  |dsimp only)
 all_goals exact hq
theorem GB{mw x C t0:Addr}{oC:Obj}{cdC:ClassData}(hC:h.get? C=some oC)(hCd:oC.data= .cls cdC){v:Value}{R:Result→Shared→Prop}(hmw:h.get? mw=some {cls:= .type "method-wrapper",data:= .fields #[.builtin "Exception.__init__",.ref x]})(hx:h.get? x=some (eS C t0))(hq:∀h',h'.get? x=some (eS C h.objs.size)→(∀b o,b≠x→h.get? b=some o→h'.get? b=some o)→h.objs.size≤h'.objs.size→R (.ok (.ret .none)) ⟨h',g,d,t,os⟩):codeAny (model prog w) A (.call (.ref mw) ⟨[v],[]⟩) R ⟨h,g,d,t,os⟩:=by
 have F:=PySem.F.excBase_Exception
 refine codeAny_of_tree ?_
 show wpAny _ _ (callAny (.ref mw) _) _ _ _
 unfold callAny
 refine aa (wpAny_load hmw ?_)
 have hstar:=F.noStar
 show wpAny _ _ (checkBoundCall "Exception.__init__" ⟨[.ref x,v],[]⟩>>=_) _ _ _
 refine aa ?_
 simp only[checkBoundCall,F.initKind,F.initRow]
 repeat (first|(with_reducible refine wpAny_load hC ?_;rw[hCd])|wp_step)
 refine⟨plainId_quiet F.init.plain _,?_⟩
 refine codeAny_builtin F.initEntry ?_
 rw[Around.under_plainId F.init.plain _]
 unfold Builtin.«BaseException.__init__»
 wp_walk
 refine hq _ ?_ ?_ ?_
 ·rw[Heap.get?_update_self _ (ah _ hx) rfl]
  rfl
 ·intro b o hb ho
  rw[bt _ _ (Ne.symm hb)]
  exact ah _ ho
 ·rw[Heap.size_after_update,bA];exact bT _
theorem xP{C N x:Addr}{nm q:Str}{bs bm:List Value}{sn:List Str}{sub:List Value}{ab:Bool}{col:Option Bool}{dd:Option Addr}{k0 k1 k2 k3 k5:Option Value}{B newId sa owner:String}{mN:SV}{v:Value}{o:Obj}{Q:Unit→Shared→Prop}(SF:StoreFacts B bm sa owner)(hC:h.get? C=some (excClassObj nm q C N bs bm true sn sub ab col dd k0 k1 k2 k3 k5 newId))(hn:h.Ns N mN)(hns:mN "__setattr__"=none)(hna:mN name=none)(hB:typeLookup (.type B) name=pure none)(hx:h.get? x=some o)(hc:o.cls= .ref C)(hnc:∀c,o.data≠.cls c)(hdn:o.dict=none)(hq:∀h' tk',h'.get? x=some {o with dict:=some h.objs.size}→h'.Ns1 h.objs.size (λ y=>if y=name then some v else none)→
   (∀b o,b≠x→h.get? b=some o→h'.get? b=some o)→Q () ⟨h',g,d,tk',os⟩):
  wpAny (model prog w) A (setAttr (.ref x) name v) Q E ⟨h,g,d,t,os⟩:=by
 have f3:=SF.slot.bind (.ref x)
 unfold setAttr callSpecial? specialOf
 repeat (any_goals (first|assumption|(with_reducible refine bY hx ?_;rw[hc])|(with_reducible refine wpAny_typeLookup_exc hC hn SF.mro SF.slot.lookup ?_;rw[hns])|wp_step))
 refine codeAny_call_builtin SF.slot.plain SF.entry (wpAny_check_sa SF hC hx hc ?_)
 have hpass:=SF.passes (.ref x)
 unfold Builtin.«object.__setattr__»
 repeat (first|rw[refuse_eq]|(rw[refuseLoop_ref,hpass])|(with_reducible refine bY hx ?_;rw[hc])|with_reducible refine wpAny_mroOf_exc hC ?_|(with_reducible refine wpAny_typeLookup_exc hC hn SF.mro hB ?_;rw[hna])|wp_step)
 rw[hdn,aI (by simp[typeHasDict])]
 split
 ·rename_i hcd
  cases hcd
 split
 ·rename_i c hcd
  exact absurd hcd (hnc c)
 ·have hx₁:(h.push {cls:= .type "dict",data:= .dict #[]}).get? x=some o:=ah _ hx
  have hxs:x≠h.objs.size:=aL (az hx)
  refine aa (wpAny_alloc' ?_)
  refine aa (wpAny_update' hx₁ ?_)
  refine ak ?_
  have hgd:((h.push {cls:= .type "dict",data:= .dict #[]}).update x λ o=>{cls:=o.cls,dict:=some h.objs.size,data:=o.data,slots:=o.slots}).get? h.objs.size
    =some {cls:= .type "dict",data:= .dict #[]}:=
   (Heap.get?_update_ne _ _ _ _ hxs.symm).trans (Heap.get?_push_at rfl rfl)
  have hnd:((h.push {cls:= .type "dict",data:= .dict #[]}).update x λ o=>{cls:=o.cls,dict:=some h.objs.size,data:=o.data,slots:=o.slots}).Ns h.objs.size (λ _=>none):=
   ⟨_,#[],_,hgd,rfl,λ e he=>absurd he (by simp),λ _=>rfl⟩
  show wpAny _ _ (ObjectAttr.storeInDict h.objs.size (.str name _) name v) _ _ _
  unfold ObjectAttr.storeInDict ObjectAttr.newKeyGuard
  refine aa (ak (aa (wpAny_nsSet1 (Heap.Ns1.of_empty hnd) λ h' hn' hs=>?_)))
  obtain⟨oD,esD,epD,hoD,hdD,hcD⟩:=hn'.count (Within.cons name v Within.nil)
  refine aa (wpAny_lookBehind hoD (by rw[hdD];exact pastItsLine_dict (ad hcD (by rw[List.length_cons,List.length_nil,sizeLine_eq];omega))) ?_)
  have hx':h'.get? x=some {cls:=o.cls,dict:=some h.objs.size,data:=o.data,slots:=o.slots}:=by
   refine(hs.2 x hxs).trans (Heap.get?_update_self _ hx₁ ?_)
   have hfr:=(Heap.get?_some_iff.mp hx).2
   obtain⟨oc,od,odt,osl⟩:=o
   cases odt<;>first|rfl|exact hfr
  refine ak (ak (ak (hq h' _ hx' hn' λ b ob hbx hb=>?_)))
  exact(hs.2 b (aL (az hb))).trans ((Heap.get?_update_ne _ _ _ _ hbx).trans (ah _ hb))
end
end
section
open PySem.Spec
open Builtin
variable{K:Frag}{name:Str}
abbrev lS:List Value:=[.type "Exception",.type "BaseException",.type "object"]
noncomputable def ID(q:Nat→Pos):List Stmt:=[.Expr (.Call (.Attribute (.Call (.Name "super" (q 0)) [] [] (q 1)) "__init__" (q 2)) [.Name "code" (q 3)] [] (q 4)) (q 5),.Assign [.Attribute (.Name "self" (q 6)) "code" (q 7)] (.Name "code" (q 8)) (q 9),.Assign [.Attribute (.Name "self" (q 10)) "told" (q 11)] (.Name "told" (q 12)) (q 13)]
structure BS where
 nm:Str
 q:Str
 bs:List Value
 sn:List Str
 sub:List Value
 ab:Bool
 col:Option Bool
 dd:Option Addr
 k0:Option Value
 k1:Option Value
 k2:Option Value
 k3:Option Value
 k5:Option Value
 mg:Str→Option Value
 mb:Str→Option Value
 oc:Obj
 od:Option Addr
 osl:Array (Option Value)
 fd:FuncData
 vs:Array Value
 file:Str
 tf:Tok
 qs:Nat→Pos
 ar:Arg
 cc:Addr
 td:Value
abbrev BS.ob(S:BS):Obj:=excClassObj S.nm S.q 123 122 S.bs lS true S.sn S.sub S.ab S.col S.dd S.k0 S.k1 S.k2 S.k3 S.k5 "Exception.__new__"
structure BE(prog:Program)(w:World)(K:Frag)(mN:SV)(S:BS)(h:Heap):Prop where
 X:K.In h
 cls:h.get? 123=some S.ob
 mro:(clsIn K 123).map (·.mro)=some (.ref 123::lS)
 ns:h.Ns 122 mN
 ini:mN "__init__"=some (.ref 120)
 noc:mN "code"=none
 nto:mN "told"=none
 nsa:mN "__setattr__"=none
 nga:mN "__getattribute__"=none
 ngt:mN "__getattr__"=none
 alo:alongIn K "__init__" lS=some (some (.builtin "Exception.__init__"))
 opq:nsIn K cStatics "thirdparty.any"=some none
 g1:h.Ns mainGlobals S.mg
 g2:S.mg "super"=none
 g3:h.Ns builtinsNs S.mb
 g4:S.mb "super"=some (.type "super")
 cel:h.IsCell 107 (some (.ref 123))
 f1:K.lookup 120=some ⟨.type "function",S.od,.func S.fd,S.osl⟩
 f2:S.fd.body= .stmts (ID S.qs)
 f3:((S.qs 2).endLine==(S.qs 4).line)=true
 f4:h.CodeRec S.fd.code S.fd.qualname
 f5:S.fd.closure=[(("__class__":Str),(107:Addr))]
 f6:S.fd.globals=mainGlobals
 f7:S.fd.builtins=builtinsNs
 f8:∀x∈S.fd.scope.names,x.2≠.cell
 f9:S.fd.scope.names.lookup ("super":Str)=some .globalImplicit
 fa:S.fd.scope.names.lookup ("__class__":Str)=some .free
 fb:S.fd.scope.names.lookup ("self":Str)=some .local
 fc:S.fd.scope.names.lookup ("code":Str)=some .local
 fd':S.fd.scope.names.lookup ("told":Str)=some .local
 fe:S.fd.scope.isCoroutine=false
 ff:S.fd.scope.isGenerator=false
 fg:S.fd.scope.kind= .function
 fh:(S.fd.params.posonlyargs++S.fd.params.args).head?=some S.ar
 fi:S.ar.arg= "self"
 fj:S.fd.code= .ref S.cc
 fk:h.get? S.cc=some S.oc
 fl:S.oc.data= .fields S.vs
 fm:S.vs[2]?=some (.str S.file S.tf)
 fn:((prog.main.file:Str)==S.file)=true
 fo:∀U (a b:Value),peek K U (bindArgs S.fd ⟨[a,b],[]⟩)=some [(("self":Str),a),(("code":Str),b),(("told":Str),S.td)]
 top:(prog.main.scope.names.lookup ("super":Str)).isSome=false
 lim:h.NoLimit
theorem BE.keeps{prog:Program}{w:World}{mN:SV}{S:BS}{h h':Heap}(b:BE prog w K mN S h)(k:∀b o,h.get? b=some o→h'.get? b=some o):BE prog w K mN S h':=
 {b with X:=b.X.keeps k,cls:=k _ _ b.cls,ns:=b.ns.keeps k,g1:=b.g1.keeps k,g3:=b.g3.keeps k,cel:=(let⟨oc,e1,e2⟩:=b.cel;⟨oc,k _ _ e1,e2⟩),f4:=b.f4.keeps k,fk:=k _ _ b.fk,lim:=b.lim.keeps k}
section
variable{prog:Program}{w:World}{A:Around}{E:VS}{h:Heap}{g:Array GenState}{d:Drawn}{t:Nat}{os:OsState}
theorem Ax{so D x C:Addr}{ox:Obj}{l₀ l:List Value}{pl:Sem Bool}{Q:Value×List Value→Shared→Prop}(hso:h.get? so=some {cls:= .type "super",dict:=none,data:= .fields #[.ref D,.ref x,.ref C],slots:= #[]})(hno:Looks (model prog w) h (opaqueClassAbove (.ref C)) none)(hC:Looks (model prog w) h (mroOf (.ref C)) l₀)(hl:(l₀.dropWhile (· != .ref D)).drop 1=l)(X:K.In h)(hf:alongIn K name l=some (some (.builtin "Exception.__init__")))(hn:(name==("__class__":Str))=false)(hx:h.get? x=some ox)(hxc:ox.cls= .ref C)(hi:Looks (model prog w) h (isSubtype (.ref C) (.type "Exception")) true)(hxC:x≠C)(hq:Q (.ref h.objs.size,[]) ⟨h.push {cls:= .type "method-wrapper",data:= .fields #[.builtin "Exception.__init__",.ref x]},g,d,t+1,os⟩):
  wpAny (model prog w) A (getMethod (.ref so) name pl) Q E ⟨h,g,d,t,os⟩:=by
 have hlk:=F.ks_slot_super_ga.lookup
 have hcan:=F.ks_canon_super_ga
 have hT:∀t',(⟨h,g,d,t',os⟩:Shared).TypeIs (.ref so) "super":=λ _=>⟨_,hso,rfl⟩
 unfold getMethod
 refine aa (wpAny_specialOf (hT _) hlk ?_)
 show wpAny _ _ (if(Manifest.canonical "super.__getattribute__" != "object.__getattribute__")=true then _ else _) _ _ _
 rw[aZ hcan]
 unfold getAttr getAttrBy
 refine aa (aa (wpAny_mkText (aV (aa (jE (hT _) (aa (ch hlk ?_)))))))
 show wpAny _ _ (getAttrByItsOwn (.ref so) (.str name t) (.type "super") (.builtin "super.__getattribute__") true false) _ _ _
 unfold getAttrByItsOwn hookBefore callGetattribute boundAndCalled
 refine aa (ch (show(if onTheHeap (.type "super")then typeLookup (.type "super") "__getattr__"else pure none)=pure none from rfl) ?_)
 refine aa (wpAny_attempt (aV ?_))
 show wpAny _ _ (bindSpecial (.builtin "super.__getattribute__") (.ref so)>>=_) _ _ _
 refine aa (ch (F.ks_slot_super_ga.bind _) ?_)
 refine bW (Q:=λ v s'=>v= .ref h.objs.size∧s'=⟨h.push {cls:= .type "method-wrapper",data:= .fields #[.builtin "Exception.__init__",.ref x]},g,d,t+1,os⟩) (E:=λ _ _=>False)
  (wpAny_call_entry F.ks_slot_super_ga (hT _) F.ks_entry_super_ga (Ji hso hno hC hl X hf hn hx hxc hi hxC ⟨_,rfl,rfl,rfl⟩) (F.ks_gaArgs_super _ _)) (λ v s' hv=>?_) λ _ _ z=>z.elim
 obtain⟨rfl,rfl⟩:=hv
 exact ak (ak hq)
theorem vh{c:Code}{env:Env}{s:Shared}{o:Expr}{apos pos:Pos}{args:List Expr}{Q:VS}(hn:noStar args=true)(hl:args.length<30)(hline:(apos.endLine==pos.line)=true)(h:_root_.PySem.wpAt (model prog w) A c (attributeBase o name env (eval o env)) (λ ov s₁=>∀pl,wpAny (model prog w) A (getMethod ov name pl) (λ r s₂=>wpAny (model prog w) A (callWith pos r.1 r.2 (backTo pos (starEach args env)) []) Q E s₂) E s₁) E s):
  _root_.PySem.wpAt (model prog w) A c (eval (.Call (.Attribute o name apos) args [] pos) env) Q E s:=by
 rw[arm_eval_Call]
 refine _root_.PySem.wpAt_bind (ks_wpAt_mono h (λ ov s₁ h₁=>_root_.PySem.wpAt_of_wpAny (aa (aX ?_))) λ _ _ e=>e)
 have hform:methodCallForm (args.length+([]:List Keyword).length) (backTo pos (starEach args env)) (backToKw pos (keywordEach [] env))=true:=by
  unfold methodCallForm
  rw[nM hn]
  show(true&&true&&decide (args.length+0+0<30))=true
  simp[hl]
 unfold methodCall
 rw[hform]
 refine aa (aV ?_)
 unfold calleeOf
 rw[aZ rfl]
 refine bW (h₁ _) (λ r s₂ h₂=>?_) λ _ _ e=>e
 have hpos:methodCallPos true o env apos pos=pure pos:=by unfold methodCallPos;simp[hline]
 rw[hpos]
 exact aa (ak h₂)
theorem yO{M:Model}{mw:Addr}{vs:Array Value}(hm:h.get? mw=some {cls:= .type "method-wrapper",data:= .fields vs}):Looks M h (keeperOf (.ref mw)) Keeper.machine:=λ A Q E s k q=>by
 unfold keeperOf
 refine aa (wpAny_load (k _ _ hm) ?_)
 exact ak q
end
section
variable{prog:Program}{w:World}{A:Around}{E:VS}{h h₁:Heap}{g:Array GenState}{d:Drawn}{t:Nat}{os:OsState}{K:Frag}{mN:SV}{S:BS}
theorem HA{x t0:Addr}{v:Value}{R:Result→Shared→Prop}(hroom:A.depth<recursionLimit)(b:BE prog w K mN S h₁)(hxn:h₁.get? x=none)(k1:∀b o,h₁.get? b=some o→h.get? b=some o)(hx:h.get? x=some (eS 123 t0))(hq:∀h' tk dd m,(∀b o,b≠x→h.get? b=some o→h'.get? b=some o)→(∃t1,h'.get? x=some {eS 123 t1 with dict:=some dd})→h.objs.size≤dd→h'.Ns1 dd m→m "code"=some v→R (.ok (.ret .none)) ⟨h',g,d,tk,os⟩):
  codeAny (model prog w) A (.call (.ref 120) ⟨[.ref x,v],[]⟩) R ⟨h,g,d,t,os⟩:=by
 have bh:=b.keeps k1
 have hxC:x≠123:=by
  rintro rfl
  exact absurd (hxn.symm.trans b.cls) nofun
 refine ks_codeAny_call_defAt (fd:=S.fd) (binds:=[("self",.ref x),("code",v),("told",S.td)]) hroom (bh.X _ _ b.f1) rfl bh.lim bh.f4 b.f2 (kp_binds bh.X λ U=>b.fo U _ _) b.f8 (λ y hy=>?_) (λ h₀ hns hk=>?_) b.fe b.ff b.fg
 ·rcases aJ.mp hy with rfl|hy
  ·exact b.fb
  ·rcases aJ.mp hy with rfl|hy
   ·exact b.fc
   ·rcases aJ.mp hy with rfl|hy
    ·exact b.fd'
    ·cases hy
 have b0:=bh.keeps hk
 have hx0:=hk _ _ hx
 have cells:(callEnv S.fd h.objs.size 120).cells=[(("__class__":Str),(107:Addr))]:=b.f5
 have glob:(callEnv S.fd h.objs.size 120).globals=mainGlobals:=b.f6
 have blt:(callEnv S.fd h.objs.size 120).builtins=builtinsNs:=b.f7
 have kofs:∀y k,S.fd.scope.names.lookup y=k→(callEnv S.fd h.objs.size 120).kindOf y=k:=λ y k hy=>hy
 have loc:∀{A':Around} {E':VS} {y:Str} {u:Value} {pos:Pos} {s':Shared} {Q:VS},S.fd.scope.names.lookup y=some .local→(y==("__debug__":Str))=false→s'.heap.Ns h.objs.size (λ x_1=>List.lookup x_1 [(("self":Str),Value.ref x),(("code":Str),v),(("told":Str),S.td)].reverse)→
   List.lookup y [(("told":Str),S.td),(("code":Str),v),(("self":Str),Value.ref x)]=some u→Q u s'→wpAny (model prog w) A' (eval (.Name y pos) (callEnv S.fd h.objs.size 120)) Q E' s':=λ {A' E' y u pos s' Q} hy hdb hn hu hq'=>wpAny_Name (wpAny_loadName_local b.fg (kofs _ _ hy) hn hu hq') hdb
 have subT:∀{h':Heap} (bb:BE prog w K mN S h') (base:Value),(Value.ref 123::lS).contains base=true→Looks (model prog w) h' (isSubtype (.ref 123) base) true:=λ bb base hb A Q E s k q=>by
  obtain⟨hh,gg,dd,tt,oo⟩:=s
  exact wpAny_isSubtype_exc (k _ _ bb.cls) (by rw[hb];exact q)
 have mroL:∀{h':Heap} (bb:BE prog w K mN S h'),Looks (model prog w) h' (mroOf (.ref 123)) (.ref 123::lS):=λ bb A Q E s k q=>by
  obtain⟨hh,gg,dd,tt,oo⟩:=s
  exact wpAny_mroOf_exc (k _ _ bb.cls) q
 have hlx:h.objs.size≠x:=bM (az hx)
 refine ks_wpAt_execs_cons (ks_wpAt_Expr_any (vh rfl (show(1:Nat)<30 by decide) b.f3 (ks_wpAt_super_base (s:=⟨h₀,g,d,_,os⟩) (kofs "super" _ b.f9) (kofs _ _ b.fa) rfl rfl (hk _ _ (bh.X _ _ b.f1)) rfl b.fh b.fj (hk _ _ (k1 _ _ b.fk)) b.fl b.fm b.fn b.top ?_)) ?_ ?_)
 ·refine ks_loadName_global b.fg (kofs _ _ b.f9) (loadGlobal_builtin (mg:=S.mg) (mb:=S.mb) (glob▸b0.g1) b.g2 (blt▸b0.g3) b.g4 ⟨rfl,?_⟩)
  refine wpAny_loadName_free b.fg (kofs _ _ b.fa) (c:=107) (by rw[cells];rfl) b0.cel ?_
  rw[b.fi]
  refine wpAny_loadName_local b.fg (kofs _ _ b.fb) hns (v:= .ref x) rfl ?_
  refine ks_wpAny_isType_cls b0.cls rfl ⟨rfl,?_⟩
  refine ks_wpAny_call_super b0.cls rfl hx0 rfl (λ c e=>by cases e) (subT b0 (.ref 123) (by simp)) (λ h2 e2 kk2=>?_)
  have b2:=b0.keeps kk2
  intro pl
  refine Ax e2 (looks_opaque b2.X b2.opq) (l₀:= .ref 123::lS) (mroL b2) rfl b2.X b2.alo rfl (kk2 _ _ hx0) rfl (subT b2 _ (by decide+kernel)) hxC ?_
  have kk3:∀b o,h2.get? b=some o→(h2.push {cls:= .type "method-wrapper",data:= .fields #[.builtin "Exception.__init__",.ref x]}).get? b=some o:=λ b o e=>ah _ e
  have hmw:(h2.push {cls:= .type "method-wrapper",data:= .fields #[.builtin "Exception.__init__",.ref x]}).get? h2.objs.size=some {cls:= .type "method-wrapper",data:= .fields #[.builtin "Exception.__init__",.ref x]}:=Heap.get?_push_at rfl rfl
  have b3:=b2.keeps kk3
  have hx3:=kk3 _ _ (kk2 _ _ hx0)
  generalize hh3:h2.push {cls:= .type "method-wrapper",data:= .fields #[.builtin "Exception.__init__",.ref x]}=h3 at b3 hx3 hmw kk3
  refine callWith_of (P:=λ hp=>hp=h3) rfl (λ hp e=>⟨.machine,.inr (.inl rfl),by rw[e];exact yO hmw⟩) ?_
  refine evalArgs_plain (spliced_cons (loc (pos:=S.qs 3) b.fc rfl (hns.keeps λ b o e=>kk3 _ _ (kk2 _ _ e)) (u:=v) rfl ?_))
  refine ak ⟨rfl,?_⟩
  refine gj (GB b3.cls rfl hmw hx3 λ h4 hx4 kk4 hs4=>?_)
  show _root_.PySem.wpAt _ _ _ _ _ _ _
  have up4:∀b o,b≠x→h₀.get? b=some o→h4.get? b=some o:=λ b o hb e=>kk4 b o hb (kk3 _ _ (kk2 _ _ e))
  have b4:BE prog w K mN S h4:=b.keeps λ y o e=>up4 y o (λ q=>by rw[q,hxn]at e;cases e) (hk _ _ (k1 _ _ e))
  have ns4:h4.Ns h.objs.size (λ x_1=>List.lookup x_1 [(("self":Str),Value.ref x),(("code":Str),v),(("told":Str),S.td)].reverse):=
   let⟨o,es,ep,e,r⟩:=hns
   ⟨o,es,ep,up4 _ _ hlx e,r⟩
  have hsz4:h.objs.size≤h4.objs.size:=bJ ns4.lt
  have SF:=PySem.F.store_Exception
  have noB:∀y:Str,y= "code"∨y= "told"→typeLookup (.type "Exception") y=pure none:=λ y hy=>by
   rcases hy with rfl|rfl
   ·rw[typeLookup_type,builtinLookup_eq_fast];kernel_rfl
   ·rw[typeLookup_type,builtinLookup_eq_fast];kernel_rfl
  refine ks_wpAt_execs_cons (ks_wpAt_Assign_Attr (_root_.PySem.wpAt_of_wpAny (loc (pos:=S.qs 8) b.fc rfl ns4 (u:=v) rfl (loc (pos:=S.qs 6) b.fb rfl ns4 (u:= .ref x) rfl ?_))) ?_)
  ·refine xP (name:= "code") SF b4.cls b4.ns b.nsa b.noc (noB _ (.inl rfl)) hx4 rfl (λ c e=>by cases e) rfl λ h5 tk5 hx5 hd5 kk5=>?_
   show _root_.PySem.wpAt _ _ _ _ _ _ _
   have up5:∀b o,b≠x→h₀.get? b=some o→h5.get? b=some o:=λ b o hb e=>kk5 b o hb (up4 b o hb e)
   have b5:BE prog w K mN S h5:=b.keeps λ y o e=>up5 y o (λ q=>by rw[q,hxn]at e;cases e) (hk _ _ (k1 _ _ e))
   have ns5:h5.Ns h.objs.size (λ x_1=>List.lookup x_1 [(("self":Str),Value.ref x),(("code":Str),v),(("told":Str),S.td)].reverse):=
    let⟨o,es,ep,e,r⟩:=hns
    ⟨o,es,ep,up5 _ _ hlx e,r⟩
   have hds:h4.objs.size≠x:=bM (az hx4)
   refine ks_wpAt_execs_cons (ks_wpAt_Assign_Attr (_root_.PySem.wpAt_of_wpAny (loc (pos:=S.qs 12) b.fd' rfl ns5 (u:=S.td) rfl (loc (pos:=S.qs 10) b.fb rfl ns5 (u:= .ref x) rfl ?_))) ?_)
   ·refine store_attr (name:= "told") (ns:=["code"]) SF b5.cls b5.ns b.nsa b.nto (noB _ (.inr rfl)) hxC ⟨_,hx5,rfl,(λ c e=>by cases e),.inr ⟨_,rfl,hds,hd5⟩⟩ (λ h6 tk6 I6 k6 s6=>?_) ?_
    ·show _root_.PySem.wpAt _ _ _ (execs [] _) _ _ _
     rw[execs_nil]
     refine _root_.PySem.wpAt_of_wpAny (ak ?_)
     obtain⟨o1,g1,g2,g3,g4,g5⟩:=s6 _ hx5
     obtain⟨o2,g6,g7,g8,g9⟩:=I6
     rw[g1]at g6;cases g6
     have e5:=g5 h4.objs.size rfl
     rcases g9 with⟨g10,_⟩|⟨dx,g10,g11,g12⟩
     ·rw[e5]at g10;cases g10
     ·rw[e5]at g10;cases g10
      refine hq h6 _ h4.objs.size _ (λ b o hb e=>k6 b o hb (λ o₀ dx q1 q2=>?_) (up5 b o hb (hk _ _ e))) ⟨h3.objs.size,?_⟩ hsz4 g12 ?_
      ·rw[hx5]at q1;cases q1;cases q2
       exact aL (ao (az e) hsz4)
      ·rw[g1]
       obtain⟨c1,d1,dt1,sl1⟩:=o1
       dsimp only at g2 g3 g4 e5
       subst g2 g3 g4 e5
       rfl
      ·exact aI (by decide)
    ·intro y hy
     by_cases q:y= "code"
     ·rw[q];exact aF ..
     ·exact absurd (aI q) hy
   ·unfold swapsWith;rfl
  ·unfold swapsWith;rfl
 ·unfold interactive
  show(S.fd.scope.kind== .module&&_)=false
  rw[b.fg];rfl
 ·unfold swapsWith;rfl
end
end
section
open PySem.Spec
open Builtin
variable{v:Value}{Q:Flow→Shared→Prop}{env:Env}{s:Shared}
structure xC(h h':Heap)(e dd:Addr)(m:SV)(v:Value):Prop where
 keeps:∀b o,h.get? b=some o→h'.get? b=some o
 size:h.objs.size≤h'.objs.size
 new:h.objs.size≤e
 at_:∃t1,h'.get? e=some {eS 123 t1 with dict:=some dd}
 ddn:h.objs.size≤dd
 ns:h'.Ns1 dd m
 code:m "code"=some v
theorem xC.fly{h h':Heap}{e dd:Addr}{m:SV}(n:xC h h' e dd m v){fs:List Addr}:nv h fs h' 123 e dd m:=by
 obtain⟨t1,ht⟩:=n.at_
 exact⟨.same n.size λ b o h _=>n.keeps b o h,Heap.get?_none_of_le n.new,n.ddn,n.new,n.ns,⟨_,_,.none,ht,rfl,rfl,rfl,rfl,.none rfl⟩⟩
section
variable{prog:Program}{w:World}{A:Around}{E:VS}{h h₁:Heap}{g:Array GenState}{d:Drawn}{t:Nat}{os:OsState}{K:Frag}{mN:SV}{S:BS}
theorem HC{Q:VS}(hroom:A.depth+3<recursionLimit)(b:BE prog w K mN S h)(hq:∀h' tk e dd m,xC h h' e dd m v→Q (.ref e) ⟨h',g,d,tk,os⟩):wpAny (model prog w) A (call (.ref 123) [v]) Q E ⟨h,g,d,t,os⟩:=by
 have hC:=b.cls
 have f1:=tc_lookup
 have f2:=tc_bind (.ref 123)
 have hT:(⟨h,g,d,t,os⟩:Shared).TypeIs (.ref 123) "type":=⟨_,hC,rfl⟩
 refine gj (codeAny_of_tree ?_)
 show wpAny _ _ (callAny (.ref 123) _) _ _ _
 repeat (any_goals (first|assumption|with_reducible refine bY hC ?_|wp_step))
 refine⟨rfl,?_⟩
 refine codeAny_call_builtin_at (Code.quiet_builtin _ (by decide+kernel)) entry_typeCall (wpAny_check_type_call_sub hC (Hz PySem.F.excBase_Exception hC b.ns b.ini (b.X _ _ b.f1) rfl ?_))
 refine gj (HA ?_ b (Heap.get?_none_of_le (bT _)) (λ b o e=>ah _ (ah _ e)) (t0:=h.objs.size) ?_ λ h' tk dd' m k ht hd hn hc=>?_)
 ·show A.depth+1<_
  omega
 ·heap_get
 ·refine⟨rfl,hq h' tk _ dd' m ⟨λ b o e=>k b o (aL (Nat.lt_succ_of_lt (az e))) (ah _ (ah _ e)),?_,bT _,ht,?_,hn,hc⟩⟩
  ·obtain⟨t1,ht⟩:=ht
   exact bJ (Nat.lt_of_succ_lt (az ht))
  ·rw[bA,bA]at hd
   omega
theorem uM{x:Sem Value}(hh:A.handled=none)(h:wpAny (model prog w) A x (λ v s₁=>∃e t dx,v= .ref e∧s₁.heap.get? 123=some S.ob∧s₁.heap.get? e=some {eS 123 t with dict:=dx}∧E (.ref e) s₁) E s):
  wpAny (model prog w) A (raiseStmt env (some x) none) Q E s:=by
 have hcB:(Value.ref 123::lS).contains (.type "BaseException")=true:=by decide+kernel
 unfold raiseStmt
 refine aa (bW h (λ v s₁ h₁=>?_) λ _ _ x=>x)
 obtain⟨e,t,dx,rfl,hC,he,hE⟩:=h₁
 obtain⟨hp,g,d,tk,os⟩:=s₁
 repeat (first|with_reducible refine bY he ?_|with_reducible refine bY hC ?_|(with_reducible refine wpAny_isSubtype_exc hC ?_;rw[hcB])|wp_step)
 exact wpAny_raiseNew_none hh hE
theorem DN{np cpos pos p1:Pos}{y:Str}{u:Nat}(hh:A.handled=none)(hroom:A.depth+3<recursionLimit)(b:BE prog w K mN S s.heap)(hk:env.scope.kind= .function)(hg:env.globals=mainGlobals)(hx:env.kindOf "BasicError"=some .globalImplicit)(hmg:∃mg,s.heap.Ns mainGlobals mg∧mg "BasicError"=some (.ref 123))(hE:∀h' tk ty e dd m,xC s.heap h' e dd m (.str y ty)→E (.ref e) ⟨h',s.gens,s.drawn,tk,s.os⟩):
  wpAny (model prog w) A (exec (.Raise (some (.Call (.Name "BasicError" np) [.Constant (.str y) u p1] [] cpos)) none pos) env) Q E s:=by
 have hC:=b.cls
 obtain⟨mg,hmg,hm⟩:=hmg
 rw[arm_exec_Raise]
 simp only[evalOpt,Option.map]
 refine aa (aX (uM (S:=S) hh ?_))
 refine aa (bW (wpAny_Call_ofName (wpAny_Name (ks_loadName_global hk hx (loadGlobal_global (mg:=mg) (by rw[hg];exact hmg) hm ?_)) rfl)) (λ v s₃ h₃=>aa (aX (ak h₃))) λ _ _ x=>x)
 unfold callWith
 refine aa (aV (evalArgs_plain (spliced_cons (Constant_str (pos:=p1) (k:=u) (ak (aa (aX ?_)))))))
 have hplain:((backTo cpos (starEach [Expr.Constant (.str y) u p1] env)).any (·.1)||(backToKw cpos (keywordEach [] env)).any (·.1.isNone))=false:=rfl
 simp only[hplain]
 obtain⟨hp,g,d,tk,os⟩:=s
 refine aa (wpAny_keeperOf_exc hC ?_)
 refine aa (HC hroom b λ h' tk' e dd' m hn=>aa (aV (wpAny_point (ak ?_))))
 obtain⟨t1,ht⟩:=hn.at_
 exact⟨e,t1,some dd',rfl,hn.keeps _ _ hC,ht,hE h' tk' _ e dd' m hn⟩
end
end
section
open PySem.Spec
variable{env:Env}{L e:Addr}{g:Heap}{X:Cx}{p:Pt}
theorem iU{l:List Env}(h:env.frame=some L):fu (env::l)=L::fu l:=List.filterMap_cons_some h
theorem r6{b:Addr}{f:Obj→Obj}{o:Obj}(ho:g.get? L=some o)(hb:g.get? b=none):(g.update L f).get? b=none:=(bt _ _ λ (e:L=b)=>by subst e;exact snK (ho.symm.trans hb)).trans hb
theorem rL.base{g' h:Heap}{v:Value}(t:rL g h e v)(k:∀b,g.get? b=Option.none→g'.get? b=Option.none):rL g' h e v:=by
 induction t using rL.casesOn with
 |none hv=>exact .none hv
 |ref T oT ts hv hg ne ho hd sz=>exact .ref T oT ts hv (k T hg) ne ho hd sz
theorem zk{h:Heap}{fs:List Addr}{C dd:Addr}{m:SV}(F:nv g (L::fs) h C e dd m)(D:D9 g L):∃sl,nv (g.update L λ o=>{o with slots:=sl}) fs h C e dd m:=by
 obtain⟨o,es,n,ho,hd⟩:=D
 obtain⟨sl,hsl⟩:=F.all L o ho nofun
 have self:=Heap.get?_update_self (λ o:Obj=>{o with slots:=sl}) ho (by
  obtain⟨c,d,dt,s⟩:=o
  obtain rfl:=hd
  rfl)
 have old {b:Addr} {o':Obj} (hb:(g.update L λ o=>{o with slots:=sl}).get? b=some o') {G:Prop} (k1:h.get? b=some o'→G) (k2:b≠L→g.get? b=some o'→G):G:=by
  by_cases q:b=L
  ·subst q
   obtain rfl:=an (self.symm.trans hb)
   exact k1 hsl
  ·exact k2 q ((bt _ _ (Ne.symm q)).symm.trans hb)
 obtain⟨oe,vs,tb,he,hc,hdd,hde,h1,t⟩:=F.v
 have hz:(g.update L λ o=>{o with slots:=sl}).objs.size=g.objs.size:=Heap.size_after_update ..
 exact⟨sl,⟨hz▸F.size,λ b o' hb hn hf=>old hb id λ q hb=>F.out b o' hb hn λ hm=>(aJ.mp hm).elim q hf,λ b o' hb hn=>old hb (λ h=>⟨_,h⟩) λ q hb=>F.all b o' hb hn⟩,
  r6 ho F.new,hz▸F.d1,hz▸F.e1,F.ns,⟨oe,vs,tb,he,hc,hdd,hde,h1,t.base λ b hb=>r6 ho hb⟩⟩
inductive Ow(fs:Option (List Env))(q:Pt)(e:Addr)(s':Shared):Prop
 |mk (l:List Env) (dd:Addr) (m:SV) (ty:Tok) (fr:fs=some l) (fa:eH q.s.heap l) (fly:nv q.s.heap (fu l) s'.heap 123 e dd m) (hc:m "code"=some (.str "RG" ty)) (hg:s'.gens=q.s.gens) (hd:s'.drawn=q.s.drawn) (hos:s'.os=q.s.os)
abbrev iu(X:Cx)(q:Pt)(e:Addr)(s':Shared):Prop:=Ow X.A.frames q e s'
noncomputable def RX{α:Type}(X:Cx)(p:Pt)(st:St)(t:Sem α):Prop:=∀(Q:α→Shared→Prop) (E:VS),(∀q e s',X.mv p q→q.st=st→iu X q e s'→E (.ref e) s')→wpAny X.m X.A t Q E p.s
noncomputable def RC(X:Cx)(p:Pt)(st:St)(f:Value)(vs:List Value):Prop:=∀(Q:VS) (E:VS),(∀q e s',X.mv p q→q.st=st→iu X q e s'→E (.ref e) s')→codeAny X.m X.A (.call f ⟨vs,[]⟩) (wants Q E) p.s
inductive mM where
 |ret (d:D) (st:St)
 |exc (st:St)
theorem wH{a b:St}(h:mM.exc a= .exc b):a=b:=mM.noConfusion h id
noncomputable def WX(X:Cx)(p:Pt)(r:mM)(t:Sem Flow):Prop:=∀(Q:Flow→Shared→Prop) (E:VS),(∀v q d,r= .ret d q.st→X.mv p q→X.den q v d→Q (.ret v) q.s)→(∀q e s',r= .exc q.st→X.mv p q→iu X q e s'→E (.ref e) s')→wpAny X.m X.A t Q E p.s
theorem RX.wx{st:St}{t:Sem Flow}(h:RX X p st t):WX X p (.exc st) t:=λ Q E _ kE=>h Q E λ q e s' m e2 fl=>kE q e s' (e2▸rfl) m fl
inductive jB(X:Cx)(env:Env)(p:Pt):Prop
 |mk (l:List Env) (fr:X.A.frames=some (env::l)) (fa:eH p.s.heap l) (fp:∀L∈fu l,X.P L∧¬X.W L) (own:env.frame=some env.locals)
theorem jB.keep{q:Pt}(F:jB X env p)(R:X.rep p)(m:X.mv p q):jB X env q:=
 let⟨l,e1,h1,h2,ho⟩:=F
 ⟨l,e1,eH.via (λ L hL o hg=>(m.same L o hg (λ hf=>R.footNot hf (h2 L hL).1) (h2 L hL).2).elim (λ h=>⟨o.slots,h⟩) λ h=>h.2) h1,h2,ho⟩
inductive FrA(X:Cx)(env:Env)(p:Pt):Prop
 |mk (l:List Env) (fr:X.A.frames=some (env::l)) (fa:eH p.s.heap (env::l)) (fp:∀L∈fu (env::l),X.P L)
theorem jB.all{loc:Loc}(F:jB X env p)(Fe:ax X p env loc):FrA X env p:=by
 obtain⟨l,e1,h1,h2,ho⟩:=F
 obtain⟨m,⟨o,es,ep,hg,hd,_⟩,_⟩:=Fe.ns
 refine⟨l,e1,λ x hx=>(aJ.mp hx).elim (λ e=>e▸⟨by rw[Fe.kind];simp,env.locals,o,es,ep,ho,hg,hd⟩) (h1 x),λ L hL=>?_⟩
 rw[iU ho]at hL
 exact(aJ.mp hL).elim (λ e=>e▸Fe.pL) λ h=>(h2 L h).1
section
variable{X:Cx}{p:Pt}
theorem rH(hroom:X.A.depth<recursionLimit)(hlim:X.h₁.NoLimit)(R:X.rep p){env₀:Env}{loc₀:Loc}(Fr:jB X env₀ p)(Fe:ax X p env₀ loc₀){fa:Addr}{f:Fn}(hf:zT X fa f)(ok:rN f.ns f.params){vs:List Value}{ds:List D}(hv:X.denL p vs ds)(hlen:ds.length=f.params.length){r:mM}(hb:∀(env:Env) (q:Pt),q.st=p.st→env.scope.names=f.ns→kc true env (X.inCall env).W→(X.inCall env).ok→(X.inCall env).rep q→ax (X.inCall env) q env (jS f.params ds)→jB (X.inCall env) env q→WX (X.inCall env) q r (execs f.body env)){Q:VS}{E:VS}(kR:∀v q d,r= .ret d q.st→X.e.mv p q→X.den q v d→Q v q.s)(kE:∀q e s',r= .exc q.st→X.e.mv p q→iu X q e s'→E (.ref e) s'):
  codeAny X.m X.A (.call (.ref fa) ⟨vs,[]⟩) (wants Q E) p.s:=
 j6 hroom (hlim.keeps R.keep) R.keep hf ok (hv.length.trans hlen) λ env s₁ F rr r1 _=>by
  have g:=F.grown
  obtain⟨lf,ef,haf,hPf⟩:=Fr.all Fe
  have ei:(X.inCall env).A.frames=some (env::env₀::lf):=ae (Option.map λ l=>env::l) ef
  have hlt {L:Addr} (h:L∈fu (env₀::lf)):L<p.s.heap.objs.size:=(R.priv L (hPf L h)).1
  refine hb env ⟨s₁,p.ρ,p.st⟩ rfl F.names uf (λ a h=>.inr h) (g.rep R F.alive) (F.envAt _ _ _ _ (λ b h=>.inr h) (hv.mono (g.cfg F.alive)))
   ⟨env₀::lf,ei,eH.via (λ L _ o h=>⟨o.slots,F.keep _ _ h⟩) haf,λ L h=>⟨.inl (hPf L h),λ hw=>absurd (F.alive L hw).1 (Nat.not_le.mpr (hlt h))⟩,F.fr⟩ _ _ (λ v q d er m hv=>?_) λ q e s' er m fl=>?_
  ·rw[r1]
   exact kR v q d er (g.via R F.alive (λ a h=>.inr h) m) (b8.mono hv (dM λ _ h=>.inl h))
  ·obtain⟨l2,dd,mm,ty,e3,fa2,fly,hc,hg,hd,hos⟩:=fl
   obtain rfl:=an (ei.symm.trans e3)
   refine tx ei fa2 fly λ h2 fly2=>?_
   rw[iU F.fr]at fly2
   obtain⟨sl,fly3⟩:=zk fly2 (fa2.mem _ (iU F.fr▸aF ..))
   exact kE ⟨{q.s with heap:=q.s.heap.update env.locals λ o=>{o with slots:=sl}},q.ρ,q.st⟩ e _ er (g.via R F.alive (λ a h=>.inr h) (jw m (Mv.private m.rep (.inr (aF ..)) (aF ..) (Heap.SameBut.update ..) rfl rfl rfl)))
    ⟨env₀::lf,dd,mm,ty,ef,eH.via (λ L hL o ho=>⟨o.slots,(bt _ _ (bM (ao (hlt hL) (F.alive _ (aF ..)).1))).trans ho⟩) (λ x hx=>fa2 x (aK _ hx)),fly3,hc,hg,hd,hos⟩
theorem Hr(hroom:X.A.depth<recursionLimit)(hlim:X.h₁.NoLimit)(R:X.rep p){env₀:Env}{loc₀:Loc}(Fr:jB X env₀ p)(Fe:ax X p env₀ loc₀){fa:Addr}{f:Fn}(hf:zT X fa f)(ok:rN f.ns f.params){vs:List Value}{ds:List D}(hv:X.denL p vs ds)(hlen:ds.length=f.params.length){st:St}(hb:∀(env:Env) (q:Pt),q.st=p.st→env.scope.names=f.ns→kc true env (X.inCall env).W→(X.inCall env).ok→(X.inCall env).rep q→ax (X.inCall env) q env (jS f.params ds)→jB (X.inCall env) env q→RX (X.inCall env) q st (execs f.body env)):
  RC X.e p st (.ref fa) vs:=λ Q E kE=>rH hroom hlim R Fr Fe hf ok hv hlen (λ env q a b c d e f g=>(hb env q a b c d e f g).wx) (λ v q d er=>mM.noConfusion er) λ q e s' er m fl=>kE q e s' m (wH er).symm fl
end
end
section
open PySem.Spec
variable{d:D}{ds:List D}{st st':St}{t value:Expr}{α:Type}{X:Cx}{q:Pt}{x:Bool}{px:Pos}{body:List Stmt}
noncomputable def Mj(d:D)(st:St):aD:= .val d st
noncomputable def LS(b:Bool)(st:St):aD:= .val (.bool b) st
noncomputable def Jf(ds:List D)(st:St):aD:= .val (.lst ds) st
abbrev Ek:=Addr→List D→St→St→Prop
inductive Qn(prog:Program)(w:World)(h:Heap):Prop
 |mk (K:Frag) (mN:SV) (S:BS) (b:BE prog w K mN S h)
inductive BGl(h:Heap):Prop
 |mk (mg:SV) (hn:h.Ns mainGlobals mg) (hm:mg "BasicError"=some (.ref 123))
structure I0(prog:Program)(w:World)(h:Heap):Prop where
 ex:Qn prog w h
 gl:BGl h
abbrev I1(X:Cx):Prop:=I0 X.prog X.w X.h₁
noncomputable def Os(X:Cx)(rz:Ek):Prop:=∀fa ds st st2,rz fa ds st st2→∀(p:Pt) (vs:List Value) (env:Env) (loc:Loc),X.rep p→p.st=st→X.denL p vs ds→jB X env p→ax X p env loc→RC X.e p st2 (.ref fa) vs
theorem Ae{d':D}(h:aD.val d st= .val d' st'){G:Prop}(k:d=d'→st=st'→G):G:=aD.noConfusion h k
theorem J6{ds':List D}(h:aD.val (.lst ds) st= .val (.lst ds') st'){G:Prop}(k:ds=ds'→st=st'→G):G:=Ae h λ h=>D.noConfusion h k
theorem NY{b b':Bool}(h:aD.val (.bool b) st= .val (.bool b') st'){G:Prop}(k:b=b'→st=st'→G):G:=Ae h λ h=>D.noConfusion h k
theorem gW:aD.val d st≠.no:=λ h=>aD.noConfusion h
section
variable{X:Cx}{env:Env}{evN:jD}{etN:jC}{p:Pt}{loc:Loc}{pos:Pos}{T:cV}{run:ee}{rz:Ek}{ns:cr}{st2:St}
theorem AO{c:(D→St→aD)→aD}{t:Sem Value}(h:SE X p t c)(hc:af (c Mj)= .val d st'):GA X X.den p t d st':=λ Q E kQ=>
 h Mj _ hc gW Q E λ v q d' st'' m e hv hk=>Ae hk λ e1 e2=>kQ v q m (e.trans e2) (e1▸hv)
theorem Ms{c:(Bool→St→aD)→aD}{t:Sem Bool}{b:Bool}(h:ST X p t c)(hc:af (c LS)= .val (.bool b) st'){Q:Bool→Shared→Prop}{E:VS}(k:∀q,X.mv p q→q.st=st'→Q b q.s):wpAny X.m X.A t Q E p.s:=
 h LS _ hc gW Q E λ b' q st'' m e hk=>NY hk λ e1 e2=>e1▸k q m (e.trans e2)
theorem wpX{p:Pt}{t:Sem α}(m:X.mv p q)(h:RX X q st t){Q:α→Shared→Prop}{E:VS}(k:∀q e s',X.mv p q→q.st=st→iu X q e s'→E (.ref e) s'):wpAny X.m X.A t Q E q.s:=
 h Q E λ q' e s' m' e' fl=>k q' e s' (jw m m') e' fl
structure At(X:Cx)(env:Env)(loc:Loc)(p:Pt):Prop where
 R:X.rep p
 F:ax X p env loc
 Fr:jB X env p
theorem At.e(a:At X env loc p)(m:X.e.mv p q):At X env loc q:=⟨m.rep,a.F.keepE m a.R,a.Fr.keep a.R (eO m)⟩
noncomputable def Lx(X:Cx)(env:Env)(loc:Loc)(st st2:St)(t:Sem α):Prop:=∀p:Pt,p.st=st→At X env loc p→RX X p st2 t
theorem qD{t:Expr}{loc:Loc}{st1 st2:St}{tr:Sem Bool}{a:Sem α}{c:Loc→St→(Bool→St→aD)→aD}(ht:∀p,X.rep p→ax X p env loc→ST X.e p tr (c loc p.st))(hx:af (c loc st LS)= .val (.bool x) st1)(ih:Lx X env loc st1 st2 a){p:Pt}(ep:p.st=st)(h:At X env loc p){E:VS}{B:Bool→Shared→Prop}(kB:∀s',(∀Q,wpAny X.m X.A a Q E s')→B x s')(kE:∀q e s',X.mv p q→q.st=st2→iu X q e s'→E (.ref e) s'):wpAny X.m X.A tr B E p.s:=by
 subst ep
 exact Ms (ht p h.R h.F) hx λ q m e=>kB _ λ Q=>wpX (eO m) (ih q e (h.e m)) kE
structure xz(T:cV)(run:ee)(rz:Ek)(ns:cr)(X:Cx)(env:Env):Prop where
 g:kb X T run
 bc:I1 X
 hroom:X.A.depth+3<recursionLimit
 ok:X.ok
 hns:env.scope.names=ns
 hW:kc true env X.W
 hz:Os X rz
theorem xz.he(c:xz T run rz ns X env):HE X env ((lc T run 39).e ns):=(tz T run 39 X c.g).e X.P env ns c.hns
theorem xz.ht(c:xz T run rz ns X env):HT X env ((lc T run 39).t ns):=(tz T run 39 X c.g).t X.P env ns c.hns
end
section
variable(T:cV)(run:ee)(rz:Ek)(ns:cr)
noncomputable def D1(e:Expr)(loc:Loc)(st st2:St):Prop:=∀X env,xz T run rz ns X env→Lx X env loc st st2 (eval e env)
noncomputable def iD(b:List Stmt)(loc:Loc)(st st2:St):Prop:=∀X env,xz T run rz ns X env→Lx X env loc st st2 (execs b env)
variable{T:cV}{run:ee}{rz:Ek}{ns:cr}{loc:Loc}{st st1 st2:St}{rest:List Stmt}{pos:Pos}
theorem D1.call{f:Str}{args:List Expr}{fa:Addr}(hst:noStar args=true)(hfn:(T.fn fa).isSome=true)(hn:af ((lc T run 39).e ns (.Name f px) loc st Mj)= .val (.val (.ref fa)) st)(ha:af (de ((lc T run 39).e ns) args loc st Jf)= .val (.lst ds) st1)(hr:rz fa ds st1 st2):D1 T run rz ns (.Call (.Name f px) args [] pos) loc st st2:=λ X env c p ep h Q E kE=>by
 subst ep
 refine wpAny_Call_Name_kw (AO (c.he _ _ p h.R h.F) hn _ E λ v q m e hv=>?_)
 obtain rfl:=b8.inv hv
 have h0:=h.e m
 obtain⟨f1,hf⟩:=Option.isSome_iff_exists.mp hfn
 refine cZ (X:=X) h0.R h0.F (λ e q R F=>c.he e _ q R F) hst (k:=Jf) (e▸ha) gW (λ q m=>⟨_,.inl rfl,gN (X:=X) m.rep (c.g.tok.fns _ f1 hf).1⟩) λ vs q2 ds2 st' m2 e2 hvs hk=>J6 hk λ e3 e4=>?_
 have h2:=h0.e m2
 exact gj (c.hz _ _ _ _ hr q2 vs env _ h2.R (e2.trans e4) (e3▸hvs) h2.Fr h2.F Q E λ q3 e3 s3 m3 e4 fl=>kE q3 e3 s3 (jw (eO m) (jw (eO m2) (eO m3))) e4 fl)
theorem D1.ifexp{b o:Expr}(hx:af ((lc T run 39).t ns t loc st LS)= .val (.bool x) st1)(hr:D1 T run rz ns (cond x b o) loc st1 st2):D1 T run rz ns (.IfExp t b o pos) loc st st2:=λ X env c p ep h Q E kE=>by
 refine IfExp_ (qD (t:=t) (c.ht t loc) hx (hr X env c) ep h (λ s' h=>?_) kE)
 induction x using Bool.casesOn<;>exact h _
theorem iD.raise{np cpos p1:Pos}{u:Nat}(hk:cA ns "BasicError"=some .globalImplicit):iD T run rz ns (.Raise (some (.Call (.Name "BasicError" np) [.Constant (.str "RG") u p1] [] cpos)) none pos::rest) loc st st:=λ X env c p ep h Q E kE=>by
 obtain⟨K,mN,S,be⟩:=c.bc.ex
 obtain⟨mg,hmg,hm⟩:=c.bc.gl
 obtain⟨l,e1,h1,h2⟩:=h.Fr.all h.F
 exact wpAny_execs_cons (DN c.g.hh c.hroom (be.keeps h.R.keep) h.F.kind h.F.glob ((cW c.hns _).trans hk) ⟨mg,hmg.keeps h.R.keep,hm⟩ λ h' tk ty e dd m hn=>
  kE p e _ (Mv.refl h.R) ep ⟨_,dd,m,ty,e1,h1,hn.fly,hn.code,rfl,rfl,rfl⟩)
theorem iD.asn{x:Str}(hcomp:ie value=false)(hx:cA ns x=some .local)(hv:af ((lc T run 39).e ns value loc st Mj)= .val d st1)(hr:iD T run rz ns rest (iB loc x d) st1 st2):iD T run rz ns (.Assign [.Name x px] value pos::rest) loc st st2:=λ X env c p ep h Q E kE=>by
 subst ep
 refine wpAny_execs_cons ?_
 rw[exec_Assign_arm]
 refine aa (aX (aa (ch (show swapsWithSole [.Name x px] value pos.line env=pure false from d6 (t:=some (.Name x px)) (n:=pos.line) hcomp) ?_)))
 rw[aI (by decide)]
 refine aa (AO (c.he _ _ p h.R h.F) hv _ E λ v q m e hv=>aa (ch (ww h.F.kind c.hns (r:=none) rfl) ?_))
 have h0:=h.e m
 exact aa (wpAny_assign_Name (iI h0.F h0.R c.ok (.inl ⟨(cW c.hns _).trans hx,c.hW.1⟩) hv _ E λ _ q2 m2 e2 F2=>ak (wpX (jw (eO m) m2) (hr X env c q2 (e2.trans e) ⟨m2.rep,F2,h0.Fr.keep h0.R m2⟩) kE)))
theorem iD.asnX(hcomp:ie value=false)(hr:D1 T run rz ns value loc st st2):iD T run rz ns (.Assign [t] value pos::rest) loc st st2:=λ X env c p ep h Q E kE=>by
 refine wpAny_execs_cons ?_
 rw[exec_Assign_arm]
 refine aa (aX (aa (ch (show swapsWithSole [t] value pos.line env=pure false from d6 (t:=some t) (n:=pos.line) hcomp) ?_)))
 rw[aI (by decide)]
 exact aa (hr X env c p ep h _ E kE)
theorem iD.ifc{orelse:List Stmt}(hx:af ((lc T run 39).t ns t loc st LS)= .val (.bool x) st1)(hr:iD T run rz ns (cond x body orelse) loc st1 st2):iD T run rz ns (.If t body orelse pos::rest) loc st st2:=λ X env c p ep h Q E kE=>by
 refine wpAny_execs_cons ?_
 rw[exec_If]
 refine aa (aX (aa (qD (t:=t) (c.ht t loc) hx (hr X env c) ep h (λ s' h=>?_) kE)))
 induction x using Bool.casesOn<;>exact h _
theorem iD.ifn(hx:af ((lc T run 39).t ns t loc st LS)= .val (.bool false) st1)(hr:iD T run rz ns rest loc st1 st2):iD T run rz ns (.If t body [] pos::rest) loc st st2:=λ X env c p ep h Q E kE=>by
 refine wpAny_execs_cons ?_
 rw[exec_If]
 exact aa (aX (aa (qD (t:=t) (c.ht t loc) hx (hr X env c) ep h (λ s' h=>wpAny_execs_nil (env:=env) (h _)) kE)))
theorem iD.ret{e:Expr}(hr:D1 T run rz ns e loc st st2):iD T run rz ns (.Return (some e) pos::rest) loc st st2:=λ X env c p ep h Q E kE=>by
 refine wpAny_execs_cons ?_
 rw[exec_Return_some]
 exact aa (aX (aa (hr X env c p ep h _ E kE)))
end
inductive RzF(T:cV)(run:ee)(rz:Ek)(fa:Addr)(ds:List D)(st st2:St):Prop
 |mk (f:Fn) (hf:T.fn fa=some (f,.shared)) (hl:mI ds f.params=true) (hb:iD T run rz f.ns f.body (jS f.params ds) st st2)
noncomputable def Rz(T:cV)(n:Nat):Ek:=n.rec (λ _ _ _ _=>False) λ n r=>RzF T (ay T n) r
theorem dP.less{T:cV}{m n:Nat}(r:dP X T m)(h:n≤m):dP X T n:=⟨r.hh,r.hs,r.tok,r.lim,aA (aO h _) r.depth,aA (eY (aO (Nat.mul_le_mul_left 12 h) _) 80) r.units⟩
theorem dP.good{T:cV}{n:Nat}(r:dP X T n):kb X T (ay T n):=⟨r.hh,r.hs,aA (eY (aB _ _) 80) r.units,r.tok,E2 T n _ r⟩
theorem Ob(T:cV)(n:Nat):∀X:Cx,dP X T (n+3)→I1 X→Os X (Rz T n):=by
 induction n with
 |zero=>exact λ X r bc fa ds st st2 h=>h.elim
 |succ n ih=>
  intro X r bc fa ds st st2 h p vs env loc R ep hv Fr F
  obtain⟨f,hf,hl,hb⟩:=h
  obtain⟨fok,nok⟩:=r.tok.fns fa _ hf
  refine Hr (aA (aB _ _) r.depth) r.lim R Fr F fok nok hv (m8 _ hl) λ env' q hq hns hW ok Rq Fq Frq=>?_
  have ri:dP (X.inCall env') T (n+3):=dP.inCall (n:=n+3) (cE n 1 3▸r) env'
  exact hb _ _ ⟨(ri.less (aB n 3)).good,bc,aA (aO (cC 3 n) _) ri.depth,ok,hns,hW,ih _ ri bc⟩ q (hq.trans ep) ⟨Rq,Fq,Frq⟩
end
section
open PySem.Spec
variable{i j k n:Nat}{ds:List D}{fs:List (Str×D)}{prog:Program}{w:World}
noncomputable def pI(n:Nat):D→Bool
 | .ob i=>Nat.blt i n
 | .val _=>true
 |d=>jo d
noncomputable def Ck(j:Nat)(d:D):Bool:=d.ob?.elim false (Nat.beq j)
noncomputable def MF(n j:Nat)(d:D):D:=cond (Ck j d) (.ob n) d
noncomputable def ME(n j:Nat):aY→aY
 | .inst C fs=>.inst C (fs.map λ p=>(p.1,MF n j p.2))
 |o=>o
noncomputable def OA(n j:Nat):aY→Prop
 | .list ds=>cq (frz [] 11) ds=some ds
 | .dict es=>jY (frz [] 11) es=some es
 | .inst _ fs=>fs.all (λ p=>pI n p.2||Ck j p.2)=true
 | .pdict _=>False
noncomputable def fI(n i:Nat):Nat:=cond (Nat.blt i n) i n
noncomputable def fN(n j i:Nat):Nat:=cond (Nat.blt i n) i j
inductive rP(n j:Nat)(σ:List (Nat×aY))(i:Nat)(o':aY):Prop
 |mk (o:aY) (h:aW σ (fN n j i)=some o) (e:ME n j o=o') (c:OA n j o) (hi:i≤n)
noncomputable def xB(n j:Nat)(σ:List (Nat×aY)):List (Nat×aY)→Prop
 |[]=>True
 |p::r=>rP n j σ p.1 p.2∧xB n j σ r
inductive pN(n:Nat)(st st':St):Prop
 |mk (j:Nat) (hj:n≤j) (c:xB n j st.σ st'.σ) (lo:n≤st'.next) (nj:j<st.next→n<st'.next)
structure dW.Sub(n:Nat)(c c':dW):Prop where
 h:c'.h=c.h
 U:∀a,c'.U a→c.U a
 ids:∀i,i<n→c'.ρ i=c.ρ i
 next:n≤c'.N
theorem DK{a b:Nat}(h:Nat.blt a b=true):a<b:=(bp ..).mp h
theorem DI{a b:Nat}(h:a<b):Nat.blt a b=true:=(bp ..).mpr h
theorem DJ{a b:Nat}(h:b≤a):Nat.blt a b=false:=Bool.eq_false_iff.mpr λ e=>aN.mpr h (DK e)
theorem Gw{d:D}(h:Ck j d=true):d= .ob j:=by
 induction d using D.casesOn with
 |ob i=>exact ae D.ob (Nat.eq_of_beq_eq_true h).symm
 |_=>exact ftK h
section
variable{prog:Program}{w:World}{c c':dW}{n j:Nat}
theorem b8.sub{v:Value}{d:D}(h:b8 prog w c v d)(l:dW.Sub n c c')(k:pI n d=true):b8 prog w c' v d:=by
 induction d using D.casesOn with
 |ob i=>
  induction h using denI_ob with
  |ob hi=>
   have hi:=DK k
   rw[←l.ids i hi]
   exact .ob i (ao hi l.next)
 |val u=>
  obtain rfl:=b8.inv h
  exact .val _
 |_=>exact qv k h
theorem bH.sub{vs:List Value}(h:bH prog w c vs ds)(l:dW.Sub n c c')(e:cq (frz [] k) ds=some ds):bH prog w c' vs ds:=aT (kA (λ v d=>rl l.h (λ a hu hu'=>hu (l.U a hu')) k v d) h) e
theorem dg.sub{vs:List (cv×Value)}{ds:List (D×D)}(h:dg prog w c vs ds)(l:dW.Sub n c c')(e:jY (frz [] k) ds=some ds):dg prog w c' vs ds:=aT (sQ (λ v d=>rl l.h (λ a hu hu'=>hu (l.U a hu')) k v d) h) e
theorem sV{g:D→D}{f:Str}:bD (fs.map λ p=>(p.1,g p.2)) f=(bD fs f).map g:=by
 induction fs with
 |nil=>exact rfl
 |cons p r ih=>
  rw[List.map_cons,b9,b9,ih]
  by_cases q:p.1=f
  ·rw[aZ q,aZ q];rfl
  ·rw[aI q,aI q]
theorem sW{P:D→Bool}(h:fs.all (λ p=>P p.2)=true){f:Str}{d:D}(hd:bD fs f=some d):P d=true:=by
 induction fs with
 |nil=>exact nsK hd
 |cons p r ih=>
  rw[b9]at hd
  have h:=aE.mp h
  by_cases q:p.1=f
  ·rw[aZ q]at hd
   exact an hd▸h.1
  ·rw[aI q]at hd
   exact ih h.2 hd
theorem fO.sub{x:Addr×Addr}{o:aY}(h:fO prog w c x o)(l:dW.Sub n c c')(k:OA n j o)(hj:j<c.N→n<c'.N∧c'.ρ n=c.ρ j):fO prog w c' x (ME n j o):=by
 induction o using aY.casesOn with
 |list ds=>exact let⟨xs,m,e,ho,hi⟩:=(h:HP prog w c x ds);⟨xs,m,e,l.h▸ho,hi.sub l k⟩
 |dict es=>exact let⟨kvs,e,hm,hi⟩:=(h:OQ prog w c x es);⟨kvs,e,l.h▸hm,hi.sub l k⟩
 |pdict es=>exact k.elim
 |inst C fs=>
  obtain⟨ox,m,e,hx,hc,hn,hdx,hns,hf,hf'⟩:=(h:Oo prog w c x C fs)
  refine Oo.mk ox m e (l.h▸hx) hc hn hdx (l.h▸hns) (λ f d' hd'=>?_) λ f hd'=>hf' f (Option.map_eq_none_iff.mp (sV.symm.trans hd'))
  obtain⟨d,hd,rfl⟩:=bL.mp (sV.symm.trans hd')
  obtain⟨v,hv,hden⟩:=hf f d hd
  have hk:=sW (P:=λ d=>pI n d||Ck j d) k hd
  refine⟨v,hv,?_⟩
  unfold MF
  induction ho:Ck j d using Bool.casesOn with
  |true=>
   obtain rfl:=Gw ho
   induction hden using denI_ob with
   |ob hi=>exact(hj hi).2▸.ob n (hj hi).1
  |false=>
   rw[ho,Bool.or_false]at hk
   exact hden.sub l hk
theorem xj(h:i<n):fN n j i=i:=ae (λ b=>cond b i j) (DI h)
theorem IF(h:n≤i):fN n j i=j:=ae (λ b=>cond b i j) (DJ h)
theorem Nz(h:i<n):fI n i=i:=ae (λ b=>cond b i n) (DI h)
theorem NA(h:n≤i):fI n i=n:=ae (λ b=>cond b i n) (DJ h)
theorem IG(hj:n≤j)(hi:i≤n):fI n (fN n j i)=i:=(Nat.lt_or_ge i n).elim (λ l=>(xj l).symm▸Nz l) λ l=>(IF l).symm▸(NA hj).trans (Nat.le_antisymm l hi)
theorem yr{σ σ':List (Nat×aY)}(c:xB n j σ σ'){i:Nat}{o':aY}(h:aW σ' i=some o'):rP n j σ i o':=by
 induction σ' with
 |nil=>exact nsK h
 |cons p r ih=>
  have c:rP n j σ p.1 p.2∧xB n j σ r:=c
  rw[c9]at h
  by_cases q:p.1=i
  ·rw[aZ q]at h
   exact q▸an h▸c.1
  ·rw[aI q]at h
   exact ih c.2 h
end
theorem KP{i':Nat}(hj:n≤j)(hi:i≤n)(hi':i'≤n)(e:fN n j i=fN n j i'):i=i':=(IG hj hi).symm.trans ((ae (fI n) e).trans (IG hj hi'))
inductive Of(prog:Program)(w:World)(h₁:Heap)(P W:Addr→Prop)(n:Nat)(p q:Pt)(st':St):Prop
 |mk (ρ':Nat→Addr×Addr) (m:Mv prog w h₁ P W p ⟨q.s,ρ',st'⟩) (l:dW.Sub n (q.cfg P) (Pt.cfg P ⟨q.s,ρ',st'⟩))
theorem wU{h₁:Heap}{P W:Addr→Prop}{p q:Pt}{st':St}(m:Mv prog w h₁ P W p q)(hp:p.st.next≤n)(N:pN n q.st st'):Of prog w h₁ P W n p q st':=by
 obtain⟨j,hj,c,lo,nj⟩:=N
 have R:=m.rep
 have at' {i:Nat} {o:aY} (h:aW st'.σ i=some o):rP n j q.st.σ i o:=yr c h
 have eN:fN n j n=j:=IF (aq n)
 have sub:dW.Sub n (q.cfg P) (Pt.cfg P ⟨q.s,λ i=>q.ρ (fN n j i),st'⟩):=
  ⟨rfl,λ a ha=>ha.imp (λ ⟨i,o,h1,h2⟩=>let⟨o',h3,_,_,_⟩:=at' h1;⟨_,o',h3,h2⟩) id,λ i hi=>ae q.ρ (xj hi),lo⟩
 refine⟨λ i=>q.ρ (fN n j i),⟨⟨R.keep,R.size,R.top,λ i o h=>?_,λ i o h=>?_,λ i o h=>?_,λ i o h=>?_,λ i i' o o' h1 h2 hne=>?_,R.priv⟩,m.gens,m.drawn,m.os,m.size,m.same,λ i hi=>(ae q.ρ (xj (ao hi hp))).trans (m.ids i hi),ad hp lo,λ i o h=>?_⟩,sub⟩
 ·obtain⟨o',h1,_,_,hi⟩:=at' h
  refine(Nat.lt_or_eq_of_le hi).elim (λ hi=>ao hi lo) λ e=>?_
  subst e
  exact nj (eN▸R.lt' _ _ h1)
 ·obtain⟨o',h1,rfl,co,_⟩:=at' h
  exact(R.obj _ _ h1).sub sub co λ hl=>⟨nj hl,ae q.ρ eN⟩
 ·obtain⟨o',h1,_⟩:=at' h;exact R.new _ _ h1
 ·obtain⟨o',h1,_⟩:=at' h;exact R.own _ _ h1
 ·obtain⟨oa,g1,_,_,l1⟩:=at' h1
  obtain⟨ob,g2,_,_,l2⟩:=at' h2
  exact R.sep _ _ oa ob g1 g2 λ e=>hne (KP hj l1 l2 e)
 ·obtain⟨o',h1,_,_,hi⟩:=at' h
  refine(m.dom _ o' h1).imp (λ ⟨hl,r⟩=>?_) id
  have e:fN n j i=i:=(Nat.lt_or_eq_of_le hi).elim xj λ e=>absurd hl (aN.mpr (by rw[e,eN];exact ad hp hj))
  exact e▸⟨hl,r⟩
section
variable{X:Cx}{env:Env}{q q':Pt}{loc loc':Loc}{n:Nat}
structure Ee(n:Nat)(loc loc':Loc):Prop where
 up:∀x d,bD loc' x=some d→bD loc x=some d
 clo:loc'.all (λ p=>pI n p.2)=true
theorem ax.sub(F:ax X q env loc)(l:dW.Sub n (q.cfg X.P) (q'.cfg X.P))(hl:Ee n loc loc'):ax X q' env loc':=
 have hs:q'.s.heap=q.s.heap:=l.h
 have hv {o:Option Value} {x:Str} {d:D} (h:bD loc' x=some d) (v:HV X.prog X.w (q.cfg X.P) o d):HV X.prog X.w (q'.cfg X.P) o d:=v.imp (λ v hd=>hd.sub l (sW hl.clo h)) rfl
 ⟨F.kind,F.glob,F.blt,let⟨m,hn,hm⟩:=F.ns;⟨m,hs▸hn,λ x d hx hk=>hv hx (hm x d (hl.up x d hx) hk)⟩,
  λ x hx=>let⟨c,v,hc,hcell,h⟩:=F.cell x hx;⟨c,v,hc,hs▸hcell,λ d hd=>hv hd (h d (hl.up x d hd))⟩,λ x d h=>F.vars x d (hl.up x d h),F.pL,F.pC,F.apart,F.apL⟩
theorem ct.sub{A:Around}{c c':dW}{I:Addr}{own wo:List Addr}(h:ct prog w A c I own wo false ds)(l:dW.Sub n c c')(hd:ds.all (pI n)=true):ct prog w A c' I own wo false ds:=
 have ok {d:D} (hm:d∈ds):pI n d=true:=nq.mp hd d hm
 h.mono (λ _ b hb o ho=>l.h▸ho) (λ h b hb=>(h b hb).imp id λ ⟨h1,o,h2⟩=>⟨λ q=>h1 (l.U _ q),o,l.h▸h2⟩) (λ v d hm h=>h.sub l (ok hm)) λ v es hm _=>ftK (ok hm)
end
end
section
open PySem.Spec
section
variable{X:Cx}{env:Env}{p:Pt}{t:Sem Flow}{c:(Loc→St→aD)→aD}{loc2:Loc}{st2:St}{d:D}
open Classical in
theorem wz(h:SS X env p t c)(hc:∀k,af (c k)=af (k loc2 st2)){Q:Flow→Shared→Prop}{E:VS}(kN:∀q,X.mv p q→q.st=st2→ax X q env loc2→Q .next q.s):wpAny X.m X.A t Q E p.s:=by
 refine h (λ loc st=>if loc=loc2∧st=st2 then .val (.ob st2.next) st2 else .no) (.val (.ob st2.next) st2) ((hc _).trans (ae af (aZ ⟨rfl,rfl⟩))) gW Q E (λ q loc st m e F hk=>?_) λ v q d st m e hv hout=>Ae hout λ e1 e2=>?_
 ·by_cases w:loc=loc2∧st=st2
  ·obtain⟨rfl,rfl⟩:=w
   exact kN q m e F
  ·rw[aI w]at hk
   exact absurd hk.symm gW
 ·subst e1
  induction hv using denI_ob with
  |ob hi=>exact absurd hi (aN.mpr (aM (ae St.next (e.trans e2.symm))))
theorem AF(h:SS X env p t c)(hc:∀k,af (c k)= .val d st2){Q:Flow→Shared→Prop}{E:VS}(kR:∀v q,X.mv p q→q.st=st2→X.den q v d→Q (.ret v) q.s):wpAny X.m X.A t Q E p.s:=
 h (λ _ _=>.no) (.val d st2) (hc _) gW Q E (λ q loc st m e F hk=>absurd hk.symm gW) λ v q d' st m e hv hout=>Ae hout λ e1 e2=>kR v q m (e.trans e2.symm) (e1▸hv)
end
section
variable(T:cV)(run:ee)(rz:Ek)(ns:cr)
noncomputable def LA(b:List Stmt)(loc:Loc)(st:St)(loc2:Loc)(st2:St):Prop:=∀X env,xz T run rz ns X env→∀p:Pt,p.st=st→At X env loc p→∀(Q:Flow→Shared→Prop) (E:VS),(∀q,X.mv p q→q.st=st2→ax X q env loc2→Q .next q.s)→wpAny X.m X.A (execs b env) Q E p.s
noncomputable def wj(b:List Stmt)(loc:Loc)(st:St)(r:mM):Prop:=∀X env,xz T run rz ns X env→∀p:Pt,p.st=st→At X env loc p→WX X p r (execs b env)
inductive El(n:Nat)(target:Expr)(body after:List Stmt)(r:mM):List D→Loc→St→Prop
 |done {loc:Loc} {st:St}:wj T run rz ns after loc st r→El n target body after r [] loc st
 |next {x:D} {ds:List D} {loc loc1 loc2 loc3:Loc} {st st2 st3:St}:gC true ns 4 target x loc=some loc1→LA T run rz ns body loc1 st loc2 st2→pN n st2 st3→Ee n loc2 loc3→El n target body after r ds loc3 st3→El n target body after r (x::ds) loc st
 |last {x:D} {ds:List D} {loc loc1:Loc} {st:St}:gC true ns 4 target x loc=some loc1→wj T run rz ns body loc1 st r→El n target body after r (x::ds) loc st
variable{T:cV}{run:ee}{rz:Ek}{ns:cr}{b:List Stmt}{loc loc2:Loc}{st st2:St}{d:D}
theorem LA.of(h:∀k,af (br (ec T run 40 ns) b loc st k)=af (k loc2 st2)):LA T run rz ns b loc st loc2 st2:=λ X env c p ep a Q E kN=>wz (gU (on T run 40 X env ns c.g c.ok c.hns c.hW) b loc p a.R a.F) (ep▸h) kN
theorem wj.ret(h:∀k,af (br (ec T run 40 ns) b loc st k)= .val d st2):wj T run rz ns b loc st (.ret d st2):=λ X env c p ep a Q E kR _=>AF (gU (on T run 40 X env ns c.g c.ok c.hns c.hW) b loc p a.R a.F) (ep▸h) λ v q m e hv=>kR v q d (e▸rfl) m hv
theorem wj.exc(h:iD T run rz ns b loc st st2):wj T run rz ns b loc st (.exc st2):=λ X env c p ep a=>(h X env c p ep a).wx
end
theorem jB.less{X:Cx}{env:Env}{p:Pt}{W':Addr→Prop}(F:jB {X with W:=W'} env p)(h:∀a,X.W a→W' a):jB X env p:=let⟨l,e1,h1,h2,ho⟩:=F;⟨l,e1,h1,λ L hL=>⟨(h2 L hL).1,λ q=>(h2 L hL).2 (h L q)⟩,ho⟩
section
variable{X:Cx}{env:Env}{p:Pt}{loc:Loc}{pos:Pos}{T:cV}{run:ee}{rz:Ek}{ns:cr}{n:Nat}{target:Expr}{body after:List Stmt}{r:mM}{q₀:Pt}{I:Addr}{its:List Addr}
abbrev Cx.both(X:Cx)(its:List Addr):Cx:={X with W:=more X.W its}
variable(X env T run rz ns n target body after r q₀ I its)in
inductive GoI(m:Nat)(s:Shared):Prop
 |mk (ds:List D) (loc:Loc) (st:St) (q:Pt) (e:m=ds.length) (es:q.s=s) (est:q.st=st) (M:(X.both its).mv q₀ q) (F:ax X q env loc) (hds:ds.all (pI n)=true) (It:ct X.prog X.w X.A (q.cfg X.P) I its its false ds) (hg:El T run rz ns n target body after r ds loc st)
theorem te(c:xz T run rz ns X env)(O:xA X env its []){q:Pt}(R:X.rep q)(F:ax X q env loc){x:D}{ds:List D}{loc1:Loc}(It:ct X.prog X.w X.A (q.cfg X.P) I its its false (x::ds))(ha:gC true ns 4 target x loc=some loc1){Q:Option Value→Shared→Prop}{B:Flow→Shared→Prop}{E:VS}(hQ:∀v s₁,wpAny X.m X.A (letOwnedTupleGo target (.ref I) v) (λ _ s₁'=>wpAny X.m X.A (assign target env v) (λ _ s₂=>wpAny X.m X.A (execs body env) B E s₂) E s₁') E s₁→Q (some v) s₁)(k:∀q2,(X.both its).mv q q2→q2.st=q.st→ax X q2 env loc1→ct X.prog X.w X.A (q2.cfg X.P) I its its false ds→wpAny X.m X.A (execs body env) B E q2.s):wpAny X.m X.A (pyNext (.ref I)) Q E q.s:=by
 have hPo b hb:=(O.all b (List.mem_append_left _ hb)).1
 refine bW (qg (X:=Cx.may X its) (target:=target) (Q:=λ v s'=>wpAny X.m X.A (assign target env v) (λ _ s₂=>wpAny X.m X.A (execs body env) B E s₂) E s') R O.ok It hPo (λ b hb=>hb) ftK λ v q1 m1 e1 hv It1=>?_) (λ r s₁ h=>h.elim λ v h=>h.1▸hQ v s₁ h.2) λ _ _ h=>h
 exact fZ c.ok c.g.hh c.hns c.hW 4 target x loc loc1 q1 v ha m1.rep (O.env R m1 F) hv _ _ λ _ q2 m2 e2 F2=>
  k q2 (Mv.trans (m1.weaken λ a h=>.inr h) m2 λ a h _=>.inl h) (e2.trans e1) F2 (It1.keep m1.rep m2 c.ok hPo (λ b hb=>(O.all b (List.mem_append_left _ hb)).2.1) λ b hb=>(O.all b (List.mem_append_left _ hb)).2.2)
theorem ze(c:xz T run rz ns X env)(O:xA X env its [])(R:X.rep q₀){ds:List D}(F:ax X q₀ env loc)(Fr:jB (X.both its) env q₀)(hn:q₀.st.next≤n)(hds:ds.all (pI n)=true)(It:ct X.prog X.w X.A (q₀.cfg X.P) I its its false ds){loc':Loc}{st':St}(hN:pN n q₀.st st')(hl:Ee n loc loc')(hg:El T run rz ns n target body after r ds loc' st'){Rs:Result→Shared→Prop}(kN:∀q loc,(X.both its).mv q₀ q→ax X q env loc→wj T run rz ns after loc q.st r→Rs (.ok .next) q.s)(kR:∀v q d,(X.both its).mv q₀ q→r= .ret d q.st→X.den q v d→Rs (.ok (.ret v)) q.s)(kE:∀q e s',(X.both its).mv q₀ q→r= .exc q.st→iu X q e s'→notedBy X.m X.A env (λ e s'=>Rs (.error e) s') (.ref e) s'):
  codeAny X.m X.A (.forLoop target (.ref I) body [] env) Rs q₀.s:=by
 refine codeAny_forLoop_any (GoI X env T run rz ns n target body after r q₀ I its) (λ m s L=>?_) ds.length (let⟨ρ',M0,sub0⟩:=wU (Mv.refl R) hn hN;⟨ds,loc',st',⟨q₀.s,ρ',st'⟩,rfl,rfl,rfl,M0,F.sub sub0 hl,hds,It.sub sub0 hds,hg⟩)
 obtain⟨ds,loc,st,q,rfl,rfl,est,M,F',hds',It',hg'⟩:=L
 have Rq:X.rep q:=M.rep
 have at' {q2:Pt} {loc1:Loc} (m:(X.both its).mv q q2) (F2:ax X q2 env loc1):At X env loc1 q2:=⟨m.rep,F2,((Fr.keep (X:=X.both its) R M).keep (X:=X.both its) Rq m).less λ a h=>.inl h⟩
 have out {q2 q3:Pt} (m:(X.both its).mv q q2) (m3:X.mv q2 q3):(X.both its).mv q₀ q3:=Mv.trans M (Mv.trans m m3 λ a h _=>.inl h) λ a h _=>h
 induction hg' using El.casesOn with
 |done hw=>exact s7 (X:=Cx.may X its) Rq O.ok It' (λ b hb=>(O.all b (List.mem_append_left _ hb)).1) (λ b hb=>hb) λ q' m' e'=>wpAny_execs_nil (kN q' _ (Mv.trans M m' λ a h _=>.inr h) (O.env Rq m' F') (e'.trans est▸hw))
 |next ha hb hN hl hr=>
  refine te c O Rq F' It' ha (λ v s₁ h=>h) λ q2 m2 e2 F2 It2=>hb X env c q2 (e2.trans est) (at' m2 F2) _ _ λ q3 m3 e3 F3=>?_
  obtain⟨ρ',M4,sub⟩:=wU (out m2 m3) hn (e3▸hN)
  have hds2:=(aE.mp hds').2
  exact⟨_,Nat.lt_succ_self _,_,_,_,⟨q3.s,ρ',_⟩,rfl,rfl,rfl,M4,F3.sub sub hl,hds2,(It2.keep m2.rep m3 c.ok (λ b hb=>(O.all b (List.mem_append_left _ hb)).1) (λ b hb=>(O.all b (List.mem_append_left _ hb)).2.1) λ b hb=>(O.all b (List.mem_append_left _ hb)).2.2).sub sub hds2,hr⟩
 |last ha hb=>exact te c O Rq F' It' ha (λ v s₁ h=>h) λ q2 m2 e2 F2 It2=>hb X env c q2 (e2.trans est) (at' m2 F2) _ _ (λ v q3 d er m3 hv=>kR v q3 d (out m2 m3) er hv) λ q3 e s' er m3 fl=>kE q3 e s' (out m2 m3) er fl
theorem xz.plus(c:xz T run rz ns X env)(hz:∀P',Os (X.withP P') rz)(new:List Addr):xz T run rz ns (X.plus new) env:=⟨c.g.withP _,c.bc,c.hroom,gp c.ok,c.hns,c.hW,hz _⟩
theorem KK(c:xz T run rz ns X env)(hz:∀P',Os (X.withP P') rz){iter:Expr}(a:At X env loc p)(hi:yX target iter=true)(htp:lL iter=false){ds:List D}{st0:St}(hit:af (mn ((lc T run 39).e ns) iter loc p.st Jf)= .val (.lst ds) st0)(hn:st0.next≤n)(hds:ds.all (pI n)=true){loc':Loc}{st':St}(hN:pN n st0 st')(hl:Ee n loc loc')(hg:El T run rz ns n target body after r ds loc' st'):
  WX X p r (execs (.For target iter body [] pos::after) env):=λ Q E kR kE=>by
 refine wpAny_execs_cons (wpAny_For ?_ (fw (kK hi).1 env))
 have hsi:=re c.g.hh c.he a.R a.F (e:=iter)
 rw[htp]at hsi
 refine hsi Jf _ hit gW _ E λ I new q₁ q ds' st m g1 e hnew It hk=>J6 hk λ e1 e2=>?_
 subst e1
 have a1:=a.e m
 have est:q.st=st0:=g1.st.trans (e.trans e2)
 have O:=xA.new c.ok a1.R a1.F hnew
 have c':=c.plus hz new
 have via {q':Pt} (M:((X.plus new).both new).mv q q'):X.mv p q':=jw (eO m) (g1.via a1.R hnew (λ a h=>h) M)
 have FrW:jB ((X.plus new).both new) env q:=let⟨l,e1,h1,h2,ho⟩:=a1.Fr;⟨l,e1,eH.via (λ L _ o h=>⟨o.slots,g1.keep _ _ h⟩) h1,λ L hL=>⟨.inl (h2 L hL).1,λ hw=>hw.elim (h2 L hL).2 λ h=>absurd (a1.R.priv L (h2 L hL).1).1 (aN.mpr (hnew L h).1)⟩,ho⟩
 refine ze c' O (g1.rep a1.R hnew) (a1.F.plus g1 hnew) FrW (est▸hn) hds It (est▸hN) hl hg (λ q' loc' M F' hw=>?_) (λ v q' d M er hv=>kR v q' d er (via M) (hY hv)) λ q' e' s' M er fl=>?_
 ·have F2:=F'.unplus a1.F.pL a1.F.pC
  have m1:=via M
  exact hw X env c q' rfl ⟨m1.rep,F2,a.Fr.keep a.R m1⟩ _ _ (λ v q2 d er m2 hv=>kR v q2 d er (jw m1 m2) hv) λ q2 e s' er m2 fl=>kE q2 e s' er (jw m1 m2) fl
 ·obtain⟨l,dd,mm,ty,e1,fa,fly,hc,hgn,hdr,hos⟩:=fl
  obtain⟨l',e3,_⟩:=a.Fr
  obtain rfl:=an (e3.symm.trans e1)
  exact om e3 fa fly λ h2 fly2 ht=>C0 (s:={s' with heap:=h2}) fly2 ht λ h3 fly3=>kE q' e' {s' with heap:=h3} er (via M) ⟨_,dd,mm,ty,e3,fa,fly3,hc,hgn,hdr,hos⟩
end
end
section
open PySem.Spec
open Builtin Builtin.ObjectAttr
theorem yE:typeLookup (.type "Exception") "__getattribute__"=pure (some (.builtin "BaseException.__getattribute__")):=by rw[typeLookup_type,builtinLookup_eq_fast];kernel_rfl
theorem yD:typeLookup (.type "Exception") "__getattr__"=pure none:=by rw[typeLookup_type,builtinLookup_eq_fast];kernel_rfl
theorem sY:typeLookup (.type "Exception") "code"=pure none:=by rw[typeLookup_type,builtinLookup_eq_fast];kernel_rfl
section
variable{prog:Program}{w:World}{A:Around}{E:VS}{h:Heap}{g:Array GenState}{d:Drawn}{t:Nat}{os:OsState}
variable{nm q:Str}{C N x dx:Addr}{bs:List Value}{sn:List Str}{sub:List Value}{ab:Bool}{col:Option Bool}{dd:Option Addr}{k0 k1 k2 k3 k5:Option Value}{newId:String}
 {mN mA:SV} {name:Str} {v:Value} {o:Obj}
set_option tactic.hygienic true in
theorem zo{tk:Tok}{Q:Fin→Shared→Prop}(hC:h.get? C=some (excClassObj nm q C N bs lS true sn sub ab col dd k0 k1 k2 k3 k5 newId))(hn:h.Ns N mN)(hna:mN name=none)(hB:typeLookup (.type "Exception") name=pure none)(hx:h.get? x=some o)(hc:o.cls= .ref C)(hnc:∀c,o.data≠.cls c)(hdx:o.dict=some dx)(hns:h.Ns dx mA)(hv:mA name=some v)(hq:Q (.done (.ret v)) ⟨h,g,d,t,os⟩):
  wpAny (model prog w) A (Builtin.«object.__getattribute__» ⟨[.ref x,.str name tk],[]⟩) Q E ⟨h,g,d,t,os⟩:=by
 have hm:=PySem.F.excBase_Exception.mroIs
 unfold Builtin.«object.__getattribute__»
 repeat (first|(with_reducible refine bY hx ?_;rw[hc])|(with_reducible refine wpAny_typeLookup_exc hC hn hm hB ?_;rw[hna])|wp_step)
 split
 ·rename_i c hcd
  exact absurd hcd (hnc c)
 unfold instanceDict
 repeat (first|(with_reducible refine bY hx ?_;rw[hc])|with_reducible refine bY hC ?_|wp_step)
 rw[hdx]
 repeat (first|(with_reducible refine wpAny_nsGet hns ?_;rw[hv])|wp_step)
 exact hq
theorem zp{M:Model}{nameV:Value}{Q:Unit→Shared→Prop}(hC:h.get? C=some (excClassObj nm q C N bs lS true sn sub ab col dd k0 k1 k2 k3 k5 newId))(hx:h.get? x=some o)(hc:o.cls= .ref C)(hq:Q () ⟨h,g,d,t,os⟩):wpAny M A (checkBuiltinCall "BaseException.__getattribute__" ⟨[.ref x,nameV],[]⟩) Q E ⟨h,g,d,t,os⟩:=by
 have hk:builtinKind "BaseException.__getattribute__"=some .slot:=by decide+kernel
 have hsplit:splitId "BaseException.__getattribute__"=some ("BaseException","__getattribute__"):=by decide+kernel
 have hcB:(Value.ref C::lS).contains (.type "BaseException")=true:=by rw[List.contains_cons];simp
 have ha:=F.args_bexc_ga (.ref x) nameV
 simp only[checkBuiltinCall,hk,hsplit]
 refine aa ?_
 ·unfold isInstance
  repeat (first|(with_reducible refine bY hx ?_;rw[hc])|(with_reducible refine wpAny_isSubtype_exc hC ?_;rw[hcB])|wp_step)
  exact hq
theorem C4{expr:Bool}{Q:VS}(hC:h.get? C=some (excClassObj nm q C N bs lS true sn sub ab col dd k0 k1 k2 k3 k5 newId))(hn:h.Ns N mN)(hga:mN "__getattribute__"=none)(hgt:mN "__getattr__"=none)(hna:mN name=none)(hB:typeLookup (.type "Exception") name=pure none)(hx:h.get? x=some o)(hc:o.cls= .ref C)(hnc:∀c,o.data≠.cls c)(hdx:o.dict=some dx)(hns:h.Ns dx mA)(hv:mA name=some v)(hh:handedOut v=pure v)(hq:Q v ⟨h,g,d,t+1,os⟩):
  wpAny (model prog w) A (getAttr (.ref x) name expr) Q E ⟨h,g,d,t,os⟩:=by
 have hm:=PySem.F.excBase_Exception.mroIs
 have f3:=F.attr_Exception.ga.bind (.ref x)
 have hx0:(expr&&onTheHeap (Value.builtin "BaseException.__getattribute__"))=false:=by cases expr<;>rfl
 have hx2:(Value.builtin "BaseException.__getattribute__"==Value.builtin "object.__getattribute__")=false:=by decide+kernel
 have hx1:(onTheHeap (Value.ref C)&&Value.builtin "BaseException.__getattribute__"==Value.builtin "object.__getattribute__")=false:=by rw[hx2];rfl
 unfold getAttr
 unfold getAttrBy
 repeat (any_goals (first|assumption|(with_reducible refine bY hx ?_;rw[hc])|(with_reducible refine wpAny_typeLookup_exc hC hn hm yE ?_;rw[hga])|(with_reducible refine wpAny_typeLookup_exc hC hn hm yD ?_;rw[hgt])|wp_step))
 refine codeAny_call_builtin F.attr_Exception.ga.plain F.entry_bexc_ga (zp hC hx hc (zo hC hn hna hB hx hc hnc hdx hns hv ?_))
 repeat (any_goals (first|assumption|wp_step))
end
end
section
open PySem.Spec
variable{s':Shared}{fs:List Addr}{e:Addr}{m:SV}{n:Str}
section
variable{X:Cx}{env:Env}{p q:Pt}{loc:Loc}{pos:Pos}
theorem ax.kept(F:ax X q env loc)(k:∀b o,q.s.heap.get? b=some o→∃sl,s'.heap.get? b=some {o with slots:=sl})(l:(q.cfg X.P).Le (Pt.cfg X.P ⟨s',q.ρ,q.st⟩)):ax X ⟨s',q.ρ,q.st⟩ env loc:=
 F.mv (q:=⟨s',q.ρ,q.st⟩) (λ v d h=>h.mono l) (λ m ⟨o,es,ep,ho,r⟩=>let⟨sl,ho'⟩:=k _ o ho;⟨{o with slots:=sl},es,ep,ho',r⟩) (λ n c v _ ⟨o,ho,hd⟩=>let⟨sl,ho'⟩:=k _ o ho;⟨{o with slots:=sl},ho',hd⟩) F.pL F.pC
theorem KM{C dd:Addr}(R:X.rep q)(F:nv q.s.heap fs s'.heap C e dd m)(hf:∀L∈fs,X.P L∧(X.W L∨L=X.h₁.objs.size))(hg:s'.gens=q.s.gens)(hd:s'.drawn=q.s.drawn)(hos:s'.os=q.s.os):X.mv q ⟨s',q.ρ,q.st⟩:=
 have l:(q.cfg X.P).Le (Pt.cfg X.P ⟨s',q.ρ,q.st⟩):=⟨λ b o hb hu=>⟨F.out b o hb nofun λ hm=>hu (.inr (hf b hm).1),hu⟩,λ _ _=>rfl,aq _⟩
 have nf {b:Addr} (hb:fT q.ρ q.st.σ b):b∉fs:=λ hm=>R.footNot hb (hf b hm).1
 ⟨⟨λ b o h=>F.out b o (R.keep b o h) nofun λ hm=>absurd (az h) (aN.mpr (R.priv b (hf b hm).1).2),ao R.size F.size,R.top,R.lt',λ i o hi=>(R.obj i o hi).mono l (λ o' ho'=>F.out _ _ ho' nofun (nf ⟨i,o,hi,.inl rfl⟩)) λ o' ho'=>F.out _ _ ho' nofun (nf ⟨i,o,hi,.inr rfl⟩),
  R.new,R.own,R.sep,λ b hb=>⟨ao (R.priv b hb).1 F.size,(R.priv b hb).2⟩⟩,hg,hd,hos,F.size,λ b o hb hft hw=>(Classical.em (b∈fs)).elim (λ hm=>.inr ⟨(hf b hm).2.resolve_left hw,F.all b o hb nofun⟩) λ hm=>.inl (F.out b o hb nofun hm),
  λ _ _=>rfl,aq _,λ i o hi=>.inl ⟨R.lt' i o hi,o,hi⟩⟩
theorem GG{M:Model}{A:Around}{E:VS}{s:Shared}{Q:Unit→Shared→Prop}(hl:env.kindOf n=some .local)(hn:s.heap.Ns env.locals m)(hp:(env.scope.kind== .class||(env.scope.kind== .module&&env.locals !=env.globals))=false)(h:∀h' m',h'.Ns env.locals m'→(∀y,y≠n→m' y=m y)→Heap.SameBut env.locals s.heap h'→Q () {s with heap:=h',toks:=s.toks+1}):
  wpAny M A (do bindName env n .none;unbindBehindTheSuite env n pos) Q E s:=by
 refine aa (wpAny_bindName (wpAny_storeName_local hl hn (λ h₁ hn₁ hs₁=>?_) hp))
 unfold unbindBehindTheSuite unbindName deleteName
 refine wpAny_onRaise (aa (wpAny_point (aa ?_)))
 rw[hl,hp]
 refine aa (wpAny_nsDel_keeps hn₁ λ h₂ v hn₂ hs₂=>?_)
 rw[aZ rfl]
 exact ak (wpAny_point (h h₂ _ hn₂ (λ y hy=>(aI hy).trans (aI hy)) (hs₁.trans hs₂)))
theorem ax.goes{h':Heap}{t:Nat}{d₀:D}{m':SV}(F:ax X q env (iB loc n d₀))(hm:∀x d,bD (iB loc n d₀) x=some d→env.kindOf x=some .local→HV X.prog X.w (q.cfg X.P) (m x) d)(hl:bD loc n=none)(hn':h'.Ns env.locals m')(hmm:∀y,y≠n→m' y=m y)(hs:Heap.SameBut env.locals q.s.heap h'):ax X ⟨{q.s with heap:=h',toks:=t},q.ρ,q.st⟩ env loc:=
 have l:(q.cfg X.P).Le (Pt.cfg X.P ⟨{q.s with heap:=h',toks:=t},q.ρ,q.st⟩):=eK F.pL hs
 have ne {x d} (hx:bD loc x=some d):x≠n:=λ e=>snK (hx.symm.trans (e▸hl))
 have up {x d} (hx:bD loc x=some d):bD (iB loc n d₀) x=some d:=(jk ..).trans ((aI (ne hx)).trans hx)
 ⟨F.kind,F.glob,F.blt,⟨m',hn',λ x d hx hk=>(hm x d (up hx) hk).imp (λ v hd=>hd.mono l) (hmm x (ne hx))⟩,λ x hx=>
  let⟨c,v,hc,⟨o,ho,hd⟩,hv⟩:=F.cell x hx
  ⟨c,v,hc,⟨o,(hs.2 c (F.apL x c (fy hc))).trans ho,hd⟩,λ d hd=>(hv d (up hd)).imp (λ v hd=>hd.mono l) rfl⟩,λ x d hx=>F.vars x d (up hx),F.pL,F.pC,F.apart,F.apL⟩
end
section
variable{X:Cx}{env:Env}{p q:Pt}{loc:Loc}{pos:Pos}{T:cV}{run:ee}{ns:cr}
noncomputable def Cx.catch(X:Cx)(e:Addr):Cx:={X with A:=X.A.mark (some (.ref e))}
theorem ax.catch(F:ax X p env loc):ax (X.catch e) p env loc:=F.mv (λ _ _ h=>h) (λ _ h=>h) (λ _ _ _ _ h=>h) F.pL F.pC
theorem ax.uncatch(F:ax (X.catch e) p env loc):ax X p env loc:=F.mv (λ _ _ h=>h) (λ _ h=>h) (λ _ _ _ _ h=>h) F.pL F.pC
structure xE(X:Cx)(h:Heap)(e:Addr):Prop where
 be:Qn X.prog X.w h
 at_:∃oe dd mm ty,h.get? e=some oe∧oe.cls= .ref 123∧(∀c,oe.data≠.cls c)∧oe.dict=some dd∧h.Ns dd mm∧mm "code"=some (.str "RG" ty)
noncomputable def xy(X:Cx)(env:Env)(loc:Loc)(hb:List Stmt):Prop:=∀(e:Addr) (p:Pt),X.rep p→ax X p env (iB loc "refusal" (.val (.ref e)))→xE X p.s.heap e→∀(Q:Flow→Shared→Prop) (E:VS),(∀q,X.e.mv p q→q.st=p.st→Q .next q.s)→wpAny X.m (X.catch e).A (execs hb env) Q E p.s
theorem uH(hr:dO X)(hkl:env.kindOf "refusal"=some .local){yp ap cp cmpP ip:Pos}{u:Nat}{ib:List Stmt}(hlm:behindInMarks .NotEq (.Constant (.str "RG") u cp)=false):
  xy X env loc [.If (.Compare (.Attribute (.Name "refusal" yp) "code" ap) [.NotEq] [.Constant (.str "RG") u cp] cmpP) ib [] ip]:=λ e p R F x Q E k=>by
 obtain⟨⟨K,mN,S,be⟩,oe,dd,mm,ty,he,hcls,hnc,hdict,hns,hc⟩:=x
 obtain⟨m,hn,hm⟩:=F.ns
 obtain⟨v,hv,hd⟩:=hm "refusal" (.val (.ref e)) ((jk ..).trans (aZ rfl)) hkl
 obtain rfl:=b8.inv hd
 have Rt (n:Nat):X.e.mv p ⟨{p.s with toks:=n},p.ρ,p.st⟩:=Mv.tick R
 refine wpAny_execs_cons ?_
 rw[exec_If]
 refine aa (aX (aa (wpAny_isTrue_Compare1 (Attribute_any_ (wpAny_Name (wpAny_loadName_local F.kind hkl hn hv (C4 (h:=p.s.heap) be.cls be.ns be.nga be.ngt be.noc sY he hcls hnc hdict hns hc rfl (Constant_str (pos:=cp) (k:=u) ?_))) rfl) (qo rfl)) hlm)))
 refine Ig (X:=(X.catch e).e) (a:= .str "RG") (b:= .str "RG") (k:=true) (Rt _).rep hr (.str _ _) (.str _ _) (by kernel_rfl) _ _ λ v q6 m6 e6 hv6=>iH (X:=(X.catch e).e) hv6 (b:=false) rfl ?_
 rw[aI (by decide)]
 exact wpAny_execs_nil (wpAny_execs_nil (k q6 (dY (Rt _) m6) e6))
theorem CY{dd:Addr}{mm:SV}{ty:Tok}(Rq:X.rep q)(ok:X.ok)(F:nv q.s.heap fs s'.heap 123 e dd mm)(hc:mm "code"=some (.str "RG" ty))(bx:Qn X.prog X.w X.h₁){q5:Pt}(m:X.mv ⟨s',q.ρ,q.st⟩ q5):xE X q5.s.heap e:=by
 have fresh {a:Addr} {o:Obj} (ha:q.s.heap.objs.size≤a) (ho:s'.heap.get? a=some o):q5.s.heap.get? a=some o:=
  m.sameX (o:=o) ho (λ hf=>absurd (Rq.footLt hf) (aN.mpr ha)) (λ hw=>absurd (Rq.priv a (ok a hw)).1 (aN.mpr ha)) λ e=>absurd Rq.size (aN.mpr (e▸ha))
 obtain⟨oe,vs,tb,he,hcls,hdict,hdata,_,_⟩:=F.v
 obtain⟨o,es,ep,ho,hd1,hk1,_,hf1⟩:=F.ns
 exact⟨let⟨K,mN,S,be⟩:=bx;⟨K,mN,S,be.keeps m.rep.keep⟩,oe,dd,mm,ty,fresh F.e1 he,hcls,λ c h=>Data.noConfusion (hdata.symm.trans h),hdict,⟨o,es,ep,fresh F.d1 ho,hd1,hk1,hf1⟩,hc⟩
inductive oW(r:mM)(st:St):Prop
 |exc (h:r= .exc st)
 |ret (d:D) (h:r= .ret d st)
noncomputable def TX(X:Cx)(env:Env)(loc:Loc)(p:Pt)(r:mM)(t:Sem Flow):Prop:=∀(Q:Flow→Shared→Prop) (E:VS),(∀q d,r= .ret d q.st→X.mv p q→ax X q env loc→Q .next q.s)→(∀q e s',r= .exc q.st→X.mv p q→ax X q env loc→iu X q e s'→E (.ref e) s')→wpAny X.m X.A t Q E p.s
noncomputable def IY(X:Cx)(env:Env):Prop:=∀l,X.A.frames=some l→∃outer,l=env::outer∧∀L∈fu l,X.P L∧(X.W L∨L=X.h₁.objs.size)
theorem Jc(bc:I1 X)(ok:X.ok)(hns:env.scope.names=ns)(hW:kc true env X.W)(F:ax X p env loc)(hfr:IY X env)(hnb:cA ns "BasicError"=some .globalImplicit)(hnr:cA ns "refusal"=some .local)(hlr:bD loc "refusal"=none){r:mM}{body:List Stmt}(hbody:TX X env loc p r (execs body env)){np hp tp:Pos}{s0:Stmt}{hb:List Stmt}(hs:xy X env loc (s0::hb)){Q:Flow→Shared→Prop}{E:VS}(k:∀q,oW r q.st→X.mv p q→ax X q env loc→Q .next q.s):
  wpAny X.m X.A (exec (.Try body [.ExceptHandler (some (.Name "BasicError" np)) (some "refusal") (s0::hb) hp] [] [] tp) env) Q E p.s:=by
 refine wpAny_Try_except (hbody _ _ (λ q d er m F'=>wpAny_execs_nil (k q (.ret d er) m F')) λ q e s' er mq F0 fl=>?_)
 obtain⟨l,dd,mm,ty,e1,fa,fly,hc,hg,hd,hos⟩:=fl
 obtain⟨outer,rfl,hPW⟩:=hfr l e1
 have Rq:X.rep q:=mq.rep
 refine om e1 fa fly λ h2 fly2 _=>ij (s:={s' with heap:=h2}) fly2 λ h3 fly3=>?_
 have k3:∀b o,X.h₁.get? b=some o→h3.get? b=some o:=λ b o h=>fly3.out b o (Rq.keep b o h) nofun λ hm=>absurd (az h) (aN.mpr (Rq.priv b (hPW b hm).1).2)
 have hkl:env.kindOf "refusal"=some .local:=(cW hns _).trans hnr
 obtain⟨K,mN,S,be⟩:=bc.ex
 obtain⟨mg,hmg,hm⟩:=bc.gl
 obtain⟨oe,vs,tb,he,hcls,hdict,hdata,_,_⟩:=fly3.v
 refine wpAny_handleBy_cons (codeAny_handlers_test ?_) (λ q=>by cases q)
 refine wpAny_Name (ks_loadName_global F.kind ((cW hns _).trans hnb) (loadGlobal_global (mg:=mg) (F.glob▸hmg.keeps k3) hm ?_)) rfl
 refine wpAny_excMatches_sub_self (be.keeps k3).cls he hcls (by decide+kernel) (codeAny_handlers_suite_as (ij (s:={s' with heap:=h3}) fly3 λ h4 fly4=>?_))
 have M4:X.mv q ⟨{s' with heap:=h4},q.ρ,q.st⟩:=KM Rq fly4 hPW hg hd hos
 refine iI (X:=X.catch e) (F0.kept (s':={s' with heap:=h4}) (λ b o h=>fly4.all b o h nofun) (M4.le ok)).catch M4.rep ok (.inl ⟨hkl,hW.1⟩) (d:= .val (.ref e)) (.val _) _ _ λ _ q5 m5 e5 F5=>?_
 have F5:=F5.uncatch
 refine hs e q5 m5.rep F5 (CY Rq ok fly4 hc ⟨K,mN,S,be⟩ m5) _ _ λ q6 m6 e6=>?_
 have F6:=F5.keepE m6 m5.rep
 obtain⟨m6n,hn6,hm6⟩:=F6.ns
 exact GG hkl hn6 (by rw[F.kind];rfl) λ h7 m7 hn7 hmm7 hs7=>
  k ⟨{q6.s with heap:=h7,toks:=q6.s.toks+1},q6.ρ,q6.st⟩ (.exc (er.trans (ae mM.exc (e6.trans e5).symm))) (jw mq (jw M4 (jw m5 (jw (eO m6) (Mv.private m6.rep F.pL hW.1 hs7 rfl rfl rfl))))) (F6.goes hm6 hlr hn7 hmm7 hs7)
end
end
section
open PySem.Spec
section
variable{X:Cx}{p:Pt}{T:cV}{n nn:Nat}{fa:Addr}{vs:List Value}{ds:List D}{r:mM}{env:Env}{loc:Loc}
inductive Ov(T:cV)(n nn:Nat)(fa:Addr)(ds:List D)(st:St)(r:mM):Prop
 |mk (f:Fn) (target iter:Expr) (body:List Stmt) (pos:Pos) (after:List Stmt) (items:List D) (st0:St) (loc':Loc) (st':St) (hf:T.fn fa=some (f,.shared)) (hl:mI ds f.params=true) (hb:f.body= .For target iter body [] pos::after) (hi:yX target iter=true) (ht:lL iter=false)
   (hit:af (mn ((lc T (ay T n) 39).e f.ns) iter (jS f.params ds) st Jf)= .val (.lst items) st0) (hn:st0.next≤nn) (hds:items.all (pI nn)=true) (hN:pN nn st0 st') (hlo:Ee nn (jS f.params ds) loc') (hg:El T (ay T n) (Rz T n) f.ns nn target body after r items loc' st')
theorem Ov.fn{st:St}(h:Ov T n nn fa ds st r):∃f,T.fn fa=some (f,.shared):=by
 obtain⟨f,_,_,_,_,_,_,_,_,_,hf,_⟩:=h
 exact⟨f,hf⟩
theorem KA(rm:dP X T (n+4))(bc:I1 X)(a:At X env loc p)(hv:X.denL p vs ds)(h:Ov T n nn fa ds p.st r){Q:VS}{E:VS}(kR:∀v q d,r= .ret d q.st→X.e.mv p q→X.den q v d→Q v q.s)(kE:∀q e s',r= .exc q.st→X.e.mv p q→iu X q e s'→E (.ref e) s'):
  codeAny X.m X.A (.call (.ref fa) ⟨vs,[]⟩) (wants Q E) p.s:=by
 obtain⟨f,target,iter,body,pos,after,items,st0,loc',st',hf,hl,hb,hi,ht,hit,hn,hds,hN,hlo,hg⟩:=h
 obtain⟨fok,nok⟩:=rm.tok.fns fa _ hf
 refine rH (aA (aB _ _) rm.depth) rm.lim a.R a.Fr a.F fok nok hv (m8 _ hl) (λ env' q hq hns hW ok Rq Fq Frq=>?_) kR kE
 have ri:dP (X.inCall env') T (n+3):=dP.inCall (n:=n+3) rm env'
 have hz (P':Addr→Prop):Os ((X.inCall env').withP P') (Rz T n):=Ob T n _ (ri.withP P') bc
 rw[hb]
 exact KK ⟨(ri.less (aB n 3)).good,bc,aA (aO (cC 3 n) _) ri.depth,ok,hns,hW,hz _⟩ hz ⟨Rq,Fq,Frq⟩ hi ht (hq▸hit) hn hds hN hlo hg
inductive Qk(T:cV)(n nn:Nat)(ns:cr)(loc:Loc)(st:St)(r:mM):List Stmt→Prop
 |mk {o:Expr} {name:Str} {apos cpos epos:Pos} {args:List Expr} {i:Nat} {C fa:Addr} {fs:List (Str×D)} {ds:List D} {st2:St} (hm:J2 o apos cpos args=true) (ho:af ((lc T (ay T n) 39).e ns o loc st Mj)= .val (.ob i) st) (hi:aW st.σ i=some (.inst C fs)) (hl:bD fs name=none) (hfa:T.meth C name=some fa)
  (ha:af (de ((lc T (ay T n) 39).e ns) args loc st Jf)= .val (.lst ds) st2) (hg:Ov T n nn fa (.ob i::ds) st2 r):Qk T n nn ns loc st r [.Expr (.Call (.Attribute o name apos) args [] cpos) epos]
theorem zd{ns:cr}{b:List Stmt}(hns:env.scope.names=ns)(rm:dP X T (n+4))(bc:I1 X)(a:At X env loc p)(h:Qk T n nn ns loc p.st r b):TX X env loc p r (execs b env):=λ Q E kN kE=>by
 obtain⟨hm,ho,hi,hl,hfa,ha,hg⟩:=h
 have g:=(rm.less (aB n 4)).good
 have he:=(tz T (ay T n) 39 X g).e X.P env ns hns
 refine wpAny_execs_cons (wpAny_Expr_any ?_ (by unfold interactive;rw[a.F.kind];rfl) (d6 rfl))
 refine iO hm (AO (he _ loc p a.R a.F) ho _ E λ v q m0 e0 hv pl=>?_)
 obtain⟨K,ck,hmeth,hty⟩:=g.tok.meths _ _ _ hfa
 have a0:=a.e m0
 obtain⟨f,hf⟩:=hg.fn
 refine p4 (X:=X) a0.R ck hmeth hty (e0▸hi) hv hl ?_
 refine cZ (X:=X) a0.R a0.F (λ e q R F=>he e loc q R F) (qW hm).2.1 (k:=Jf) (e0▸ha) gW (λ q m=>⟨_,.inl rfl,gN (X:=X) m.rep (g.tok.fns _ _ hf).1⟩) λ vs q2 ds2 st' m2 e2 hvs hk=>J6 hk λ e3 e4=>?_
 subst e3
 have a2:=a0.e m2
 have up {q3:Pt} (m3:X.e.mv q2 q3):X.mv p q3:=jw (eO m0) (jw (eO m2) (eO m3))
 exact gj (KA rm bc a2 (.cons (gk m2 hv) hvs) ((e2.trans e4).symm▸hg) (λ v3 q3 d3 er m3 hv3=>wpAny_execs_nil (kN q3 d3 er (up m3) (a2.F.keepE m3 a2.R))) λ q3 e3 s3 er m3 fl=>kE q3 e3 s3 er (up m3) (a2.F.keepE m3 a2.R) fl)
end
end
section
open PySem.Spec
inductive rO(T:cV)(n nn:Nat)(f:Fn)(ds:List D)(st:St)(d:D)(st':St):Prop
 |mk (s1:Stmt) (b:List Stmt) (np yp ap cp cmpP ip hp tp:Pos) (u:Nat) (ib after:List Stmt) (loc1:Loc) (st1 st3:St) (r:mM)
  (hb:f.body=s1::.Try b [.ExceptHandler (some (.Name "BasicError" np)) (some "refusal") [.If (.Compare (.Attribute (.Name "refusal" yp) "code" ap) [.NotEq] [.Constant (.str "RG") u cp] cmpP) ib [] ip] hp] [] [] tp::after)
  (hnb:cA f.ns "BasicError"=some .globalImplicit) (hnr:cA f.ns "refusal"=some .local) (hlm:behindInMarks .NotEq (.Constant (.str "RG") u cp)=false)
  (h1:∀k,af (ec T (ay T n) 40 f.ns s1 (jS f.params ds) st k)=af (k loc1 st1)) (hlr:bD loc1 "refusal"=none) (hg:Qk T n nn f.ns loc1 st1 r b) (hr:oW r st3) (haf:∀k,af (br (ec T (ay T n) 40 f.ns) after loc1 st3 k)= .val d st')
section
variable{X:Cx}{p:Pt}{T:cV}{n nn:Nat}{fa:Addr}{vs:List Value}{ds:List D}{r:mM}{env:Env}{loc:Loc}{f:Fn}{d:D}{st':St}
theorem oW.same{a b:St}(h:oW r a)(k:oW r b):a=b:=by
 induction h with
 |exc e=>induction k with
  |exc e'=>exact wH (e.symm.trans e')
  |ret d e'=>exact mM.noConfusion (e.symm.trans e')
 |ret d e=>induction k with
  |exc e'=>exact mM.noConfusion (e.symm.trans e')
  |ret d e'=>exact mM.noConfusion (e.symm.trans e') λ _ h=>h
theorem Bw(rm:dP X T (n+4))(bc:I1 X)(ok:X.ok)(hns:env.scope.names=f.ns)(hW:kc true env X.W)(a:At X env (jS f.params ds) p)(hfr:IY X env)(h:rO T n nn f ds p.st d st'):WX X p (.ret d st') (execs f.body env):=λ Q E kR kE=>by
 obtain⟨s1,b,np,yp,ap,cp,cmpP,ip,hp,tp,u,ib,after,loc1,st1,st3,r,hb,hnb,hnr,hlm,h1,hlr,hg,hr,haf⟩:=h
 have g:=(rm.less (aB n 4)).good
 have ev:=on T (ay T n) 40 X env f.ns g ok hns hW
 rw[hb]
 refine wpAny_execs_cons (wz (ev s1 _ p a.R a.F) h1 λ q m e F1=>?_)
 subst e
 have a1:At X env loc1 q:=⟨m.rep,F1,a.Fr.keep a.R m⟩
 refine wpAny_execs_cons (Jc bc ok hns hW F1 hfr hnb hnr hlr (zd hns rm bc a1 hg) (uH g.hr ((cW hns _).trans hnr) hlm) λ q2 er m2 F2=>?_)
 exact AF (gU ev after loc1 q2 m2.rep F2) (er.same hr▸haf) λ v q3 m3 e4 hv=>kR v q3 d (e4▸rfl) (jw m (jw m2 m3)) hv
theorem ax.bare(F:ax X p env loc){P':Addr→Prop}(hP:∀a,X.P a→P' a):ax (X.withP P').e p.bare env []:=
 ⟨F.kind,F.glob,F.blt,let⟨m,hn,_⟩:=F.ns;⟨m,hn,λ x d hx=>nsK hx⟩,λ x hx=>let⟨c,v,hc,hcell,_⟩:=F.cell x hx;⟨c,v,hc,hcell,λ d hd=>nsK hd⟩,λ x d hx=>nsK hx,hP _ F.pL,λ n c h=>hP _ (F.pC n c h),F.apart,F.apL⟩
theorem uY(rm:dP X T (n+5))(bc:I1 X)(R:X.rep p)(F:ax X p env loc)(hA:X.A.frames=some [env])(hef:env.frame=some env.locals)(hel:env.locals=X.h₁.objs.size)(fok:zT X fa f)(nok:rN f.ns f.params){ds':List D}{d':D}(hv:X.denL p vs ds)(hz:cq (frz [] 12) ds=some ds')(hlen:mI ds' f.params=true)(h:rO T n nn f ds' ⟨[],0⟩ d st')(hd:frz st'.σ 12 d=some d'):GC X.e p (.ref fa) vs d' p.st:=
 tQ R rm.hs hv hz (λ P' hP Rb hvb Q E kQ=>by
  refine rH (X:=(X.withP P').e) (p:=p.bare) (aA (aB _ _) rm.depth) rm.lim Rb ⟨[],hA,λ _ h=>absurd h aQ,λ _ h=>absurd h aQ,hef⟩ (F.bare hP) fok nok hvb (m8 _ hlen) (r:= .ret d st') (λ env' q hq hns hW ok Rq Fq Frq=>?_) (λ v q d1 er m hvd=>mM.noConfusion er λ e1 e2=>kQ v q m e2.symm (e1▸hvd)) λ q e s' er=>mM.noConfusion er
  refine Bw (X:=((X.withP P').e).inCall env') (dP.inCall (n:=n+4) (X:=(X.withP P').e) ⟨rm.hh,rm.hs,rm.tok,rm.lim,rm.depth,rm.units⟩ env') bc ok hns hW ⟨Rq,Fq,Frq⟩ (λ l hl=>?_) (by rw[hq];exact h)
  have e1:(((X.withP P').e).inCall env').A.frames=some (env'::[env]):=ae (Option.map λ l=>env'::l) hA
  obtain rfl:=an (e1.symm.trans hl)
  obtain⟨_,_,_,_,own⟩:=Frq
  refine⟨[env],rfl,λ L hL=>?_⟩
  rw[iU own,iU hef]at hL
  refine(aJ.mp hL).elim (λ e=>e▸⟨Fq.pL,.inl hW.1⟩) λ hL=>(aJ.mp hL).elim (λ e=>?_) λ h=>absurd h aQ
  rw[e,hel]
  exact⟨Rq.top,.inr rfl⟩) hd
end
end
section
open PySem.Spec
variable{e:Expr}
abbrev zY:=List D→St→Option (D×St)
inductive Qd(T:cV)(n nn:Nat)(f:Fn)(ds:List D)(st:St)(r:D×St):Prop
 |mk (e:r.2=st) (ds':List D) (d0:D) (st0:St) (hz:cq (frz [] 12) ds=some ds') (hl:mI ds' f.params=true) (hN:rO T n nn f ds' ⟨[],0⟩ d0 st0) (hd:frz st0.σ 12 d0=some r.1)
noncomputable def D4(T:cV)(n nn:Nat)(f:Fn)(orc:zY):Prop:=∀ds st r,orc ds st=some r→Qd T n nn f ds st r
noncomputable def uZ(ev:dh)(fa:Addr)(orc:zY)(x:Str)(px:Pos)(args:List Expr):Loc→St→(D→St→aD)→aD:=λ loc st k=>cond (noStar args)
 (ev (.Name x px) loc st λ fv st=>cS (fv.val?.bind uI) λ a=>cond (Nat.beq a fa) (de ev args loc st λ ds st=>.node (orc ds st) k) .no) .no
noncomputable def v7:Expr→Option (Str×Pos×List Expr×Pos)
 | .Call f args kw pos=>cond kw.isEmpty ((FF f).map λ n=>(n.1,n.2,args,pos)) none
 |_=>none
noncomputable def evL(ev:dh)(fa:Addr)(orc:zY)(y:Str):dh:=λ e=>(v7 e).elim (ev e) λ q=>cond (c7 q.1 y) (uZ ev fa orc q.1 q.2.1 q.2.2.1) (ev e)
noncomputable def ND(ev:dh)(fa:Addr)(orc:zY)(y:Str):dh
 | .Tuple es m pos=>Jb (evL ev fa orc y) es
 |e=>ev e
noncomputable def Am:Stmt→Option (Expr×Expr)
 | .Assign ts v _=>cond (ts.tail.isEmpty) (ts.head?.bind λ t=>cond (dT t&&dT v) (some (t,v)) none) none
 |_=>none
noncomputable def C5(T:cV)(run:ee)(fa:Addr)(orc:zY)(y:Str)(ns:cr):zU:=λ s=>(Am s).elim (ec T run 40 ns s) λ q=>Lk T ns (ND ((lc T run 39).e ns) fa orc y) q.1 q.2
theorem zI:b6 (λ q=>e= .Call (.Name q.1 q.2.1) q.2.2.1 [] q.2.2.2) (v7 e):=by
 induction e using Expr.casesOn with
 |Call f as kw cp=>
  refine .cond λ hk=>.mp λ n hn=>?_
  obtain rfl:=cn hk
  obtain rfl:=aT (P:=λ n:Str×Pos=>f= .Name n.1 n.2) qN hn
  exact rfl
 |_=>exact ag
inductive P7(e:Expr):Prop
 |mk (es:List Expr) (m:Nat) (pos:Pos) (h:e= .Tuple es m pos)
theorem s9(h:dT e=true):P7 e:=by
 revert h
 induction e using Expr.casesOn with
 |Tuple es m pos=>exact λ _=>⟨es,m,pos,rfl⟩
 |_=>exact ftK
inductive OD(s:Stmt)(q:Expr×Expr):Prop
 |mk (pos:Pos) (h:s= .Assign [q.1] q.2 pos) (h1:dT q.1=true) (h2:dT q.2=true)
theorem xL{s:Stmt}:b6 (OD s) (Am s):=by
 induction s using Stmt.casesOn with
 |Assign ts v pos=>exact .cond λ hl=>.bnd λ t ht=>.cond λ h=>OD.mk pos (Bh ht hl▸rfl) (aE.mp h).1 (aE.mp h).2
 |_=>exact ag
section
variable{X:Cx}{p:Pt}{T:cV}{n nn:Nat}{fa:Addr}{env:Env}{loc:Loc}{f:Fn}{orc:zY}{ns:cr}{y:Str}
structure D8(X:Cx)(T:cV)(n nn:Nat)(fa:Addr)(f:Fn)(orc:zY)(env:Env):Prop where
 rm:dP X T (n+5)
 bc:I1 X
 hA:X.A.frames=some [env]
 hef:env.frame=some env.locals
 hel:env.locals=X.h₁.objs.size
 fok:zT X fa f
 nok:rN f.ns f.params
 ho:D4 T n nn f orc
theorem Bv(c:D8 X T n nn fa f orc env){ev:dh}(he:HE X env ev)(R:X.rep p)(F:ax X p env loc){x:Str}{px pos:Pos}{args:List Expr}:SE X.e p (eval (.Call (.Name x px) args [] pos) env) (uZ ev fa orc x px args loc p.st):=λ k out hc ho Q E kQ=>
 have hc:=ce hc ho
 wpAny_Call_Name_kw ((he _ loc p R F).go hc.2 ho λ v q d m hv hk=>(bX hk ho).elim λ a h=>by
  obtain⟨ha,hk1⟩:=ce h.2 ho
  obtain rfl:=Nat.eq_of_beq_eq_true ha
  obtain⟨w,hw,hr⟩:=nk.mp h.1
  obtain rfl:=aT (P:=λ w=>v=w) (qC hv) hw
  obtain rfl:=mU hr
  have F0:=F.keepE m R
  refine cZ (X:=X) m.rep F0 (λ e q R F=>he e loc q R F) hc.1 hk1 ho (λ q m=>⟨_,.inl rfl,gN (X:=X) m.rep c.fok⟩) λ vs q2 ds2 st' m2 e2 hvs hk2=>?_
  subst e2
  obtain⟨⟨d,st'⟩,hr,hk3⟩:=kp hk2 ho
  obtain⟨rfl,ds',d0,st0,hz,hlen,hN,hd⟩:=c.ho _ _ _ hr
  exact(uY c.rm c.bc m2.rep (F0.keepE m2 m.rep) c.hA c.hef c.hel c.fok c.nok hvs hz hlen hN hd).ga Q E λ v3 q3 m3 e3 hv3=>kQ v3 q3 _ _ (dY m (dY m2 m3)) e3 hv3 hk3)
theorem KU(c:D8 X T n nn fa f orc env){ev:dh}(he:HE X env ev):HE X env (evL ev fa orc y):=λ e loc p R F=>
 gx (o:=v7 e) (c1:=λ q=>cond (c7 q.1 y) (uZ ev fa orc q.1 q.2.1 q.2.2.1) (ev e)) (λ q hq=>fH (λ _=>by
  obtain rfl:=aT (P:=λ q:Str×Pos×List Expr×Pos=>e= .Call (.Name q.1 q.2.1) q.2.2.1 [] q.2.2.2) zI hq
  exact Bv c he R F) (he e loc p R F)) (he e loc p R F)
theorem G5(c:D8 X T n nn fa f orc env){ev:dh}(he:HE X env ev):HE X env (ND ev fa orc y):=λ e loc p R F=>by
 induction e using Expr.casesOn with
 |Tuple es m pos=>exact Aj (KU c he) R F
 |_=>exact he _ loc p R F
theorem G3(c:D8 X T n nn fa f orc env)(ok:X.ok)(hns:env.scope.names=ns)(hW:kc true env X.W){m:Nat}(hm:m≤n+5):Qj X env (C5 T (ay T m) fa orc y ns):=λ s loc p R F=>
 have g:kb X T (ay T m):=(c.rm.less hm).good
 have he:HE X env ((lc T (ay T m) 39).e ns):=(tz T (ay T m) 39 X g).e X.P env ns hns
 gx (λ q hq=>by
  obtain⟨pos,rfl,h1,h2⟩:=aT xL hq
  obtain⟨t,v⟩:=q
  obtain⟨_,_,_,rfl⟩:=s9 h1
  obtain⟨_,_,_,rfl⟩:=s9 h2
  exact DT ok g.hh hns hW g.tok (G5 c he) R F rfl rfl) (on T (ay T m) 40 X env ns g ok hns hW s loc p R F)
end
end
section
open PySem.Spec
variable{st:St}{fin out:aD}{s:List Sp}{A B C E F:Prop}{d:D}
theorem OH(st:St){d d':D}(h:d=d'):(some (d,st):Sp)=some (d',st):=ae (λ d=>some (d,st)) h
theorem mJ(st:St){b b':Bool}(h:b=b'):(some (.bool b,st):Sp)=some (.bool b',st):=OH st (ae D.bool h)
theorem D0(e:(fin=fin)=Tr fin s out:=by kernel_rfl):af out=af fin:=dB s (e▸rfl)
theorem fK(h1:A)(e:(A∧fin=fin)=Tr fin s out:=by kernel_rfl):af out=af fin:=dB s (e▸⟨h1,rfl⟩)
theorem rX(h1:A)(h2:B)(e:(A∧B∧fin=fin)=Tr fin s out:=by kernel_rfl):af out=af fin:=dB s (e▸⟨h1,h2,rfl⟩)
theorem OM(h1:A)(h2:B)(h3:C)(e:(A∧B∧C∧fin=fin)=Tr fin s out:=by kernel_rfl):af out=af fin:=dB s (e▸⟨h1,h2,h3,rfl⟩)
theorem OL(h1:A)(h2:B)(h3:C)(h4:E)(e:(A∧B∧C∧E∧fin=fin)=Tr fin s out:=by kernel_rfl):af out=af fin:=dB s (e▸⟨h1,h2,h3,h4,rfl⟩)
theorem Qa(h1:A)(h2:B)(h3:C)(h4:E)(h5:F)(e:(A∧B∧C∧E∧F∧fin=fin)=Tr fin s out:=by kernel_rfl):af out=af fin:=dB s (e▸⟨h1,h2,h3,h4,h5,rfl⟩)
theorem P9{G:Prop}(h1:A)(h2:B)(h3:C)(h4:E)(h5:F)(h6:G)(e:(A∧B∧C∧E∧F∧G∧fin=fin)=Tr fin s out:=by kernel_rfl):af out=af fin:=dB s (e▸⟨h1,h2,h3,h4,h5,h6,rfl⟩)
theorem P8{G H:Prop}(h1:A)(h2:B)(h3:C)(h4:E)(h5:F)(h6:G)(h7:H)(e:(A∧B∧C∧E∧F∧G∧H∧fin=fin)=Tr fin s out:=by kernel_rfl):af out=af fin:=dB s (e▸⟨h1,h2,h3,h4,h5,h6,h7,rfl⟩)
theorem Tv0(e:(aD.val d st= .val d st)=Tr (.val d st) s out:=by kernel_rfl):af out= .val d st:=dB s (fin:= .val d st) (e▸rfl)
theorem rK(h1:A)(e:(A∧aD.val d st= .val d st)=Tr (.val d st) s out:=by kernel_rfl):af out= .val d st:=dB s (fin:= .val d st) (e▸⟨h1,rfl⟩)
theorem oV(h1:A)(h2:B)(e:(A∧B∧aD.val d st= .val d st)=Tr (.val d st) s out:=by kernel_rfl):af out= .val d st:=dB s (fin:= .val d st) (e▸⟨h1,h2,rfl⟩)
theorem HK(h1:A)(h2:B)(h3:C)(e:(A∧B∧C∧aD.val d st= .val d st)=Tr (.val d st) s out:=by kernel_rfl):af out= .val d st:=dB s (fin:= .val d st) (e▸⟨h1,h2,h3,rfl⟩)
theorem IQ(h1:A)(h2:B)(h3:C)(h4:E)(e:(A∧B∧C∧E∧aD.val d st= .val d st)=Tr (.val d st) s out:=by kernel_rfl):af out= .val d st:=dB s (fin:= .val d st) (e▸⟨h1,h2,h3,h4,rfl⟩)
theorem Tv5(h1:A)(h2:B)(h3:C)(h4:E)(h5:F)(e:(A∧B∧C∧E∧F∧aD.val d st= .val d st)=Tr (.val d st) s out:=by kernel_rfl):af out= .val d st:=dB s (fin:= .val d st) (e▸⟨h1,h2,h3,h4,h5,rfl⟩)
theorem OK{G:Prop}(h1:A)(h2:B)(h3:C)(h4:E)(h5:F)(h6:G)(e:(A∧B∧C∧E∧F∧G∧aD.val d st= .val d st)=Tr (.val d st) s out:=by kernel_rfl):af out= .val d st:=dB s (fin:= .val d st) (e▸⟨h1,h2,h3,h4,h5,h6,rfl⟩)
theorem Tv8{G H I:Prop}(h1:A)(h2:B)(h3:C)(h4:E)(h5:F)(h6:G)(h7:H)(h8:I)(e:(A∧B∧C∧E∧F∧G∧H∧I∧aD.val d st= .val d st)=Tr (.val d st) s out:=by kernel_rfl):af out= .val d st:=dB s (fin:= .val d st) (e▸⟨h1,h2,h3,h4,h5,h6,h7,h8,rfl⟩)
theorem P6{G H I J K L M:Prop}(h1:A)(h2:B)(h3:C)(h4:E)(h5:F)(h6:G)(h7:H)(h8:I)(h9:J)(h10:K)(h11:L)(h12:M)(e:(A∧B∧C∧E∧F∧G∧H∧I∧J∧K∧L∧M∧aD.val d st= .val d st)=Tr (.val d st) s out:=by kernel_rfl):af out= .val d st:=dB s (fin:= .val d st) (e▸⟨h1,h2,h3,h4,h5,h6,h7,h8,h9,h10,h11,h12,rfl⟩)
noncomputable def dI(l:List (D×Int)):List (D×D):=l.map λ p=>(p.1,.int p.2)
noncomputable def valI:List (D×Int)→String→Int
 |[],_=>0
 |p::r,x=>cond (di p.1 (.inr (S x))) p.2 (valI r x)
noncomputable def cN:List (D×Int)→String→Int→List (D×Int)
 |[],x,v=>[(.str (S x),v)]
 |p::r,x,v=>cond (di p.1 (.inr (S x))) ((p.1,v)::r) (p::cN r x v)
theorem r5(l:List (D×Int))(x:String):gu (aR (dI l) (.inr (S x))) (.int 0)= .int (valI l x):=by
 induction l with
 |nil=>exact rfl
 |cons p r ih=>
  show gu (cond (di p.1 (.inr (S x))) (some (.int p.2)) (aR (dI r) (.inr (S x)))) (.int 0)= .int (cond (di p.1 (.inr (S x))) p.2 (valI r x))
  induction di p.1 (.inr (S x))using Bool.casesOn with
  |true=>exact rfl
  |false=>exact ih
theorem sr(l:List (D×Int))(x:String)(v:Int):d4 (dI l) (.inr (S x)) (.int v)=dI (cN l x v):=by
 induction l with
 |nil=>exact rfl
 |cons p r ih=>
  show cond (di p.1 (.inr (S x))) ((p.1,D.int v)::dI r) ((p.1,.int p.2)::d4 (dI r) (.inr (S x)) (.int v))=dI (cond (di p.1 (.inr (S x))) ((p.1,v)::r) (p::cN r x v))
  induction di p.1 (.inr (S x))using Bool.casesOn with
  |true=>exact rfl
  |false=>exact ae (_::·) ih
theorem Ca{x:Str}(h:di d (.inr x)=true):d= .str x:=by
 induction d using D.casesOn with
 |str y=>exact ae D.str (gn h)
 |_=>exact ftK h
theorem Cb(x y:Str):di (.str x) (.inr y)=decide (x=y):=eV x y
theorem iF(x y:String)(v:Int)(l:List (D×Int)):valI (cN l x v) y=if S x=S y then v else valI l y:=by
 have k (l:List (D×Int)):valI ((.str (S x),v)::l) y=if S x=S y then v else valI l y:=(ae (λ b=>cond b v (valI l y)) (Cb ..)).trans (Bool.cond_decide ..)
 induction l with
 |nil=>exact k []
 |cons p r ih=>
  obtain⟨a,w⟩:=p
  show valI (cond (di a (.inr (S x))) ((a,v)::r) ((a,w)::cN r x v)) y=_
  induction hx:di a (.inr (S x))using Bool.casesOn with
  |true=>
   obtain rfl:=Ca hx
   refine(k r).trans (ite_congr rfl (λ _=>rfl) λ h=>?_)
   exact((ae (λ b=>cond b w (valI r y)) (Cb ..)).trans ((Bool.cond_decide ..).trans (aI h))).symm
  |false=>
   show cond (di a (.inr (S y))) w (valI (cN r x v) y)=if S x=S y then v else cond (di a (.inr (S y))) w (valI r y)
   induction hy:di a (.inr (S y))using Bool.casesOn with
   |true=>exact(aI λ e=>tfK ((e▸hy).symm.trans hx)).symm
   |false=>exact ih
theorem ky(σ:List (Nat×aY))(k:Nat)(l:List (D×Int)):jY (frz σ k) (dI l)=some (dI l):=by
 induction l with
 |nil=>exact rfl
 |cons p r ih=>
  show(frz σ k (.int p.2)).bind (λ d=>(jY (frz σ k) (dI r)).map ((p.1,d)::·))=_
  rw[ih]
  induction k using Nat.casesOn<;>exact rfl
inductive cO where
 |wh (z:Int)
 |nm (x:String)
 |lt (a b:cO)
 |pl (a b:cO)
 |am (a b:cO)
noncomputable def uj(op:String)(a b:D):D:= .tup [.str (S "two"),.str (S op),a,b]
noncomputable def cO.toD:cO→D
 | .wh z=>.tup [.str (S "whole"),.int z]
 | .nm x=>.tup [.str (S "name"),.str (S x)]
 | .lt a b=>uj "<" a.toD b.toD
 | .pl a b=>uj "+" a.toD b.toD
 | .am a b=>uj "&" a.toD b.toD
noncomputable def cO.dep:cO→Nat
 | .wh _=>0
 | .nm _=>0
 | .lt a b=>a.dep+b.dep+1
 | .pl a b=>a.dep+b.dep+1
 | .am a b=>a.dep+b.dep+1
noncomputable def bE(l:List (D×Int)):cO→Int
 | .wh z=>z
 | .nm x=>valI l x
 | .lt a b=>0-tW (decide (bE l a<bE l b))
 | .pl a b=>(bE l a+bE l b).fmod 4
 | .am a b=>10*bE l a+bE l b
end
section
open PySem.Spec
variable{a:cO}
theorem rk(σ:List (Nat×aY))(k:Nat)(x:Str):frz σ k (.str x)=some (.str x):=by induction k using Nat.casesOn<;>exact rfl
theorem GP(σ:List (Nat×aY))(k:Nat)(x:Int):frz σ k (.int x)=some (.int x):=by induction k using Nat.casesOn<;>exact rfl
theorem GO{σ:List (Nat×aY)}{k:Nat}{op:String}{a b:D}(ha:frz σ k a=some a)(hb:frz σ k b=some b):frz σ (k+1) (uj op a b)=some (uj op a b):=by
 show((frz σ k (.str (S "two"))).bind λ x=>((frz σ k (.str (S op))).bind λ y=>((frz σ k a).bind λ z=>((frz σ k b).bind λ w=>some [w]).map (z::·)).map (y::·)).map (x::·)).map D.tup=_
 rw[rk,rk,ha,hb]
 rfl
theorem lT{a b k:Nat}(h:a+b+1<k+1):a<k∧b<k:=⟨aA (aB a b) (Nat.lt_of_succ_lt_succ h),aA (cC b a) (Nat.lt_of_succ_lt_succ h)⟩
theorem tl(σ:List (Nat×aY))(t:cO):∀k:Nat,t.dep<k→frz σ k t.toD=some t.toD:=by
 have bin {op:String} {a b:cO} (ha:∀k:Nat,a.dep<k→frz σ k a.toD=some a.toD) (hb:∀k:Nat,b.dep<k→frz σ k b.toD=some b.toD) (k:Nat) (h:a.dep+b.dep+1<k):frz σ k (uj op a.toD b.toD)=some (uj op a.toD b.toD):=by
  induction k using Nat.casesOn with
  |zero=>exact absurd h (pO _)
  |succ k=>exact GO (ha k (lT h).1) (hb k (lT h).2)
 induction t with
 |wh z=>
  intro k h
  induction k using Nat.casesOn with
  |zero=>exact absurd h (pO _)
  |succ k=>induction k using Nat.casesOn<;>exact rfl
 |nm z=>
  intro k h
  induction k using Nat.casesOn with
  |zero=>exact absurd h (pO _)
  |succ k=>induction k using Nat.casesOn<;>exact rfl
 |lt a b ha hb=>
  exact bin ha hb
 |pl a b ha hb=>
  exact bin ha hb
 |am a b ha hb=>
  exact bin ha hb
theorem tm{σ:List (Nat×aY)}{k:Nat}{a b a' b':D}(ha:frz σ k a=some a')(hb:frz σ k b=some b'):cq (frz σ k) [a,b]=some [a',b']:=by
 show(frz σ k a).bind (λ x=>((frz σ k b).bind λ y=>some [y]).map (x::·))=_
 rw[ha,hb]
 rfl
theorem KE(σ:List (Nat×aY))(k:Nat)(l:List (D×Int)):frz σ (k+1) (.dct (dI l))=some (.dct (dI l)):=ae (Option.map D.dct) (ky σ k l)
noncomputable def oU(l:List (D×Int))(t:cO):Prop:=∀n:Nat,t.dep≤n→t.dep<12→∀(ds:List D) (st:St),mI ds (bj 102).params=true→cq (frz st.σ 12) ds=some [t.toD,.dct (dI l)]→ay aP (n+1) 672 ds st=some (.int (bE l t),st)
theorem pQ{l:List (D×Int)}{m:Nat}(ih:oU l a)(h:a.dep<m+1)(h':a.dep<11):ay aP (m+1) 672 [a.toD,.dct (dI l)] ⟨[],0⟩=some (.int (bE l a),⟨[],0⟩):=
 ih m (Nat.le_of_lt_succ h) (Nat.lt_succ_of_lt h') _ _ (by kernel_rfl) (tm (tl _ a 12 (Nat.lt_succ_of_lt h')) (KE _ 11 l))
theorem lj{l:List (D×Int)}{b t:cO}(ha:oU l a)(hb:oU l b)(e:t.dep=a.dep+b.dep+1)(k:∀m ds st,mI ds (bj 102).params=true→cq (frz st.σ 12) ds=some [t.toD,.dct (dI l)]→ay aP (m+1) 672 [a.toD,.dct (dI l)] ⟨[],0⟩=some (.int (bE l a),⟨[],0⟩)→ay aP (m+1) 672 [b.toD,.dct (dI l)] ⟨[],0⟩=some (.int (bE l b),⟨[],0⟩)→ay aP (m+2) 672 ds st=some (.int (bE l t),st)):oU l t:=λ n hn h12 ds st hl hz=>by
 rw[e]at hn h12
 induction n using Nat.casesOn with
 |zero=>exact absurd hn (Nat.not_succ_le_zero _)
 |succ m=>exact k m ds st hl hz (pQ ha (lT (Nat.lt_succ_of_le hn)).1 (lT h12).1) (pQ hb (lT (Nat.lt_succ_of_le hn)).2 (lT h12).2)
theorem uc(l:List (D×Int))(t:cO):oU l t:=by
 induction t with
 |wh z=>
  exact λ n _ _ ds st hl hz=>lw (f:=bj 102) (by kernel_rfl) hl hz (d:= .int z) (st':=⟨[],0⟩) (by kernel_rfl) (by kernel_rfl)
 |nm x=>
  exact λ n _ _ ds st hl hz=>lw (f:=bj 102) (by kernel_rfl) hl hz (d:= .int (valI l x)) (st':=⟨[],0⟩)
   (rK (s:=au 5 (gv (.int (valI l x)) ⟨[],0⟩::[])) (OH ⟨[],0⟩ (r5 l x))) (by kernel_rfl)
 |lt a b ha hb=>
  exact lj ha hb rfl λ m ds st hl hz R1 R2=>lw (f:=bj 102) (by kernel_rfl) hl hz (d:= .int (bE l (.lt a b))) (st':=⟨[],0⟩)
   (oV (s:=au 5 (some (.int (bE l a),⟨[],0⟩)::au 1 (some (.int (bE l b),⟨[],0⟩)::au 6 []))) R1 R2) (by kernel_rfl)
 |pl a b ha hb=>
  exact lj ha hb rfl λ m ds st hl hz R1 R2=>lw (f:=bj 102) (by kernel_rfl) hl hz (d:= .int (bE l (.pl a b))) (st':=⟨[],0⟩)
   (oV (s:=au 5 (some (.int (bE l a),⟨[],0⟩)::au 1 (some (.int (bE l b),⟨[],0⟩)::au 7 []))) R1 R2) (by kernel_rfl)
 |am a b ha hb=>
  exact lj ha hb rfl λ m ds st hl hz R1 R2=>lw (f:=bj 102) (by kernel_rfl) hl hz (d:= .int (bE l (.am a b))) (st':=⟨[],0⟩)
   (oV (s:=au 5 (some (.int (bE l a),⟨[],0⟩)::au 1 (some (.int (bE l b),⟨[],0⟩)::au 7 []))) R1 R2) (by kernel_rfl)
end
section
open PySem.Spec
noncomputable def aD.opt:aD→Sp
 | .node o _=>o
 |_=>none
noncomputable def t8(o:Option D)(st:St):Sp:=(gH o st λ _ _=>.no).opt
noncomputable def mB(o:Option Bool)(st:St):Sp:=(mc o st λ _ _=>.no).opt
noncomputable def AG(o:Option St):Sp:=(wV o λ _=>.no).opt
section
variable(st:St)(i:Nat)
theorem dA{ds:List D}(h:aW st.σ i=some (.list ds))(hs:small ds=true):rJ st .len [.ob i]=some (.int (aw ds:Nat),st):=by
 show((aW st.σ i).bind iP).bind _=_
 rw[h]
 exact ae (λ b=>cond b (some (D.int (aw ds:Nat),st)) none) hs
theorem dL(a:Nat){ds:List D}{d:D}(h:aW st.σ i=some (.list ds))(hb:Nat.blt a 1000000=true)(hn:dj ds a=some d):t8 (gB st (.ob i) (.int (Int.ofNat a))) st=some (d,st):=by
 show t8 (((aW st.σ i).bind oB).elim (((aW st.σ i).bind iP).bind _) _) st=_
 rw[h]
 show t8 (cond (Nat.blt a 1000000) (dj ds a) none) st=_
 rw[hb,hn]
 rfl
theorem fR(k:D){es:List (D×D)}{d:D}{kk:cv}(h:aW st.σ i=some (.dict es))(hk:dN k=some kk)(hn:aR es kk=some d):t8 (gB st (.ob i) k) st=some (d,st):=by
 show t8 (((aW st.σ i).bind oB).elim _ _) st=_
 rw[h]
 show t8 ((dN k).bind λ k=>aR es k) st=_
 rw[hk]
 exact ae (t8 · st) hn
theorem iN(k:D){es:List (D×D)}{d:D}{kk:cv}(h:aW st.σ i=some (.dict es))(hk:dN k=some kk)(hn:aR es kk=some d):mB (dF st .NotIn k (.ob i)) st=some (.bool false,st):=by
 show mB (Option.map (!·) (Option.elim ((aW st.σ i).bind oB) _ _)) st=_
 rw[h]
 show mB (((dN k).map λ k=>iy (aR es k)).map _) st=_
 rw[hk]
 exact ae (λ o=>mB (some (!iy o)) st) hn
theorem lH(d:D){ds:List D}(h:aW st.σ i=some (.list ds))(hs:small ds=true):ku .append st (.ob i) [d]=some (.none,st.put i (.list (ds++[d]))):=by
 show(((aW st.σ i).bind iP).map _).bind _=_
 rw[h]
 exact ae (λ b=>cond b (some (D.none,st.put i (.list (ds++[d])))) none) hs
theorem vd(k d:D){es:List (D×D)}{kk:cv}(h:aW st.σ i=some (.dict es))(hk:dN k=some kk)(hs:small es=true):AG (l5 st (.ob i) k d)=some (.none,st.put i (.dict (d4 es kk d))):=by
 show AG ((aW st.σ i).bind (Jm i st k d))=_
 rw[h]
 show AG ((dN k).bind λ k=>cond (small es) (some (st.put i (.dict (d4 es k d)))) none)=_
 rw[hk]
 exact ae (λ b=>AG (cond b (some (st.put i (.dict (d4 es kk d)))) none)) hs
end
structure Pg where
 rows:List D
 places:List (D×D)
 pairs:List (D×D)
 loops:List (D×D)
noncomputable def mV(b:Bool):Nat:=cond b 15 13
noncomputable def Fv(b:Bool):Nat:=cond b 16 15
noncomputable def stR(P:Pg)(b:Bool)(l:List (D×Int))(old notes:List D)(pl:Nat)(extra:List (Nat×aY))(nx:Nat):St:=
 ⟨extra++[(14,.list notes),(12,.inst 452 [(S "pile",.ob pl),(S "most",.int 20),(S "failed_at",.int (-1))]),
  (11,.inst 646 [(S "flat",.ob 0),(S "values",.ob 10),(S "worth_of",.val (.ref 672)),(S "bits",.int 16),(S "digits",.int 9),(S "control",.ob 12),(S "notes",.ob 14)]),
  (10,.dict (dI l)),(1,.list P.rows),(5,.dict P.loops),(4,.dict P.pairs),(2,.dict P.places),
  (0,.inst 213 [(S "rows",.ob 1),(S "places",.ob 2),(S "data",.ob 3),(S "pairs",.ob 4),(S "loops",.ob 5),(S "fns",.ob 6)]),(mV b,.list old)],nx⟩
noncomputable def bn(P:Pg)(b:Bool)(l:List (D×Int))(pile notes:List D):St:=stR P b l pile notes (mV b) [] (Fv b)
noncomputable def tg:Fn:=vf 96 6
noncomputable def eC:Stmt→List Stmt
 | .For _ _ b _ _=>b
 |_=>[]
noncomputable def Ei:List Stmt:=eC (bZ tg.body 0)
noncomputable def qZ(a:Int)(t:Int):Loc:=[(S "self",.ob 11),(S "at",.int a),(S "most",.int 50),(S "turn",.int t)]
end
section
open PySem.Spec
variable(n:Nat)(P:Pg)(b:Bool)(l:List (D×Int))(pile notes:List D)(t:cO)(z:Int)(x:String)(v:Int)(st:Mine.St)
theorem dC:aW (bn P b l pile notes).σ (mV b)=some (.list pile):=by induction b using Bool.casesOn<;>rfl
theorem PK{t:cO}(h:t.dep<12):cq (frz (bn P b l pile notes).σ 12) [t.toD,.ob 10]=some [t.toD,.dct (dI l)]:=tm (tl _ t 12 h) (ae (Option.map D.dct) (ky (bn P b l pile notes).σ 11 l))
theorem I4(hn:t.dep≤n)(h12:t.dep<12):ay aP (n+1) 672 [t.toD,.ob 10] (bn P b l pile notes)=some (.int (bE l t),bn P b l pile notes):=
 uc l t n hn h12 _ _ (by kernel_rfl) (PK P b l pile notes h12)
theorem lO(h:d5 z 0=false):ay aP (n+2) 189 [.int z] st=some (.bool true,st):=(mo n z st).trans (ae (λ b=>some (D.bool (!b),st)) h)
theorem lP(h:d5 z 0=true):ay aP (n+2) 189 [.int z] st=some (.bool false,st):=(mo n z st).trans (ae (λ b=>some (D.bool (!b),st)) h)
theorem I5(h:v=0∨v=1∨v=2∨v=3):ay aP (n+3) 168 [.int v,.int 16] st=some (.int v,st):=by
 rcases h with rfl|rfl|rfl|rfl
 ·exact eJ (f:=bj 29) (ds':=[.int 0,.int 16]) (d:= .int 0) (by kernel_rfl) (st':=⟨[],0⟩) (by kernel_rfl) (by kernel_rfl)
 ·exact eJ (f:=bj 29) (ds':=[.int 1,.int 16]) (d:= .int 1) (by kernel_rfl) (st':=⟨[],0⟩) (by kernel_rfl) (by kernel_rfl)
 ·exact eJ (f:=bj 29) (ds':=[.int 2,.int 16]) (d:= .int 2) (by kernel_rfl) (st':=⟨[],0⟩) (by kernel_rfl) (by kernel_rfl)
 ·exact eJ (f:=bj 29) (ds':=[.int 3,.int 16]) (d:= .int 3) (by kernel_rfl) (st':=⟨[],0⟩) (by kernel_rfl) (by kernel_rfl)
theorem FK(hs:small (dI l)=true):AG (l5 (bn P b l pile notes) (.ob 10) (.str (S x)) (.int v))=some (.none,bn P b (cN l x v) pile notes):=by
 rw[vd (bn P b l pile notes) 10 (.str (S x)) (.int v) (es:=dI l) (kk:= .inr (S x)) rfl rfl hs,sr]
 rfl
theorem fW(g r:Int)(h1:aR P.places (.inl g)=some (.int r)):ay aP (n+1) 273 [.ob 0,.int g] (bn P b l pile notes)=some ((D.int r),(bn P b l pile notes)):=bw (f:=bj 43) (oV (s:=gv (D.bool false) (bn P b l pile notes)::gv (D.int r) (bn P b l pile notes)::[]) (iN (bn P b l pile notes) 2 (D.int g) (by kernel_rfl) (by kernel_rfl) h1) (fR (bn P b l pile notes) 2 (D.int g) (by kernel_rfl) (by kernel_rfl) h1))
theorem gV(hn:t.dep≤n)(h12:t.dep<12):ay aP ((n+1)+1) 608 [.ob 11,t.toD] (bn P b l pile notes)=some ((D.int (bE l t)),(bn P b l pile notes)):=bw (f:=vf 96 1) (rK (s:=gv (D.int (bE l t)) (bn P b l pile notes)::[]) (I4 n P b l pile notes t hn h12))
theorem Ab:ay aP (n+1) 622 [.ob 11,.str (S x)] (bn P b l pile notes)=some ((D.int (valI l x)),(bn P b l pile notes)):=bw (f:=vf 96 3) (rK (s:=gv (D.int (valI l x)) (bn P b l pile notes)::[]) (OH (bn P b l pile notes) (r5 l x)))
theorem AA(hs:small (dI l)=true):ay aP (n+1) 629 [.ob 11,.str (S x),.int v] (bn P b l pile notes)=some (D.none,(bn P b (cN l x v) pile notes)):=bw (f:=vf 96 4) (rK (s:=gv (D.none) (bn P b (cN l x v) pile notes)::[]) (FK P b l pile notes x v hs))
theorem xn(a r:Int)(h1:aR P.pairs (.inl a)=some (.int r)):ay aP (n+1) 287 [.ob 0,.int a] (bn P b l pile notes)=some ((D.int r),(bn P b l pile notes)):=bw (f:=bj 45) (oV (s:=gv (D.bool false) (bn P b l pile notes)::gv (D.int r) (bn P b l pile notes)::[]) (iN (bn P b l pile notes) 4 (D.int a) (by kernel_rfl) (by kernel_rfl) h1) (fR (bn P b l pile notes) 4 (D.int a) (by kernel_rfl) (by kernel_rfl) h1))
end
section
open PySem.Spec
variable{Q:List Int→Prop}
end
set_option hygiene false in
local macro_rules | `(tactic| trivial) => `(tactic| (induction b using Bool.casesOn <;> kernel_rfl))
section
open PySem.Spec
variable{Q:List Int→Prop}
end
set_option hygiene false in
local macro_rules | `(tactic| trivial) => `(tactic| (revert s0; induction b using Bool.casesOn <;> (intro s0; kernel_rfl)))
section
open PySem.Spec
variable{Q:List Int→Prop}
end
set_option hygiene false in
local macro_rules | `(tactic| trivial) => `(tactic| (revert s0 s1; induction b using Bool.casesOn <;> (intro s0 s1; kernel_rfl)))
section
open PySem.Spec
variable{Q:List Int→Prop}
theorem FP(P:Pg)(b:Bool)(l:List (D×Int))(pile notes:List D)(d:D)(hs:small notes=true):ku .append (bn P b l pile notes) (.ob 14) [d]=some (.none,bn P b l pile (notes++[d])):=by
 rw[lH (bn P b l pile notes) 14 d rfl hs]
 rfl
noncomputable def aU(gs:List Int):List D:=gs.map λ g=>.tup [.str (S "GOSUB"),.int g]
noncomputable def stK(P:Pg)(b:Bool)(l:List (D×Int))(old new notes:List D):St:=stR P b l old notes (Fv b) [(Fv b,.list new)] (Fv b+1)
theorem cg{n:Nat}(h0:Q [])(h1:∀a r,r.length≤n→Q (a::r))(gs:List Int)(h:gs.length≤n+1):Q gs:=by
 induction gs using List.casesOn with
 |nil=>exact h0
 |cons a r=>exact h1 a r (Nat.le_of_succ_le_succ h)
theorem yF(h0:Q [])(gs:List Int)(h:gs.length≤0):Q gs:=List.eq_nil_of_length_eq_zero (Nat.le_zero.mp h)▸h0
theorem pi(n:Nat)(P:Pg)(b:Bool)(l:List (D×Int))(notes:List D)(p:Int):∀gs:List Int,gs.length≤12→ay aP (n+4) 544 [.ob 12] (bn P b l (aU (gs++[p])) notes)=some (.int p,stK P b l (aU (gs++[p])) (aU gs) notes):=by
 induction b using Bool.casesOn<;>exact cg (by kernel_rfl) λ a0=>cg (by kernel_rfl) λ a1=>cg (by kernel_rfl) λ a2=>cg (by kernel_rfl) λ a3=>cg (by kernel_rfl) λ a4=>cg (by kernel_rfl) λ a5=>cg (by kernel_rfl) λ a6=>cg (by kernel_rfl) λ a7=>cg (by kernel_rfl) λ a8=>cg (by kernel_rfl) λ a9=>cg (by kernel_rfl) λ a10=>cg (by kernel_rfl) λ a11=>yF (by kernel_rfl)
theorem Ky(n:Nat)(P:Pg)(b:Bool)(l:List (D×Int))(pile notes:List D)(p:Int)(hs:small pile=true)(hl:decide ((20:Int)≤((aw pile:Nat):Int))=false):ay aP (n+1) 463 [.ob 12,.tup [.str (S "GOSUB"),.int p]] (bn P b l pile notes)=some (.none,bn P b l (pile++[.tup [.str (S "GOSUB"),.int p]]) notes):=bw (f:=bj 75) (let s0:St:=bn P b l pile notes;(HK (s:=gv (D.int ↑(aw pile)) s0::gv (.bool false) s0::gv (D.none) (bn P b l (pile++[D.tup [D.str (S "GOSUB"),D.int p]]) notes)::[]) (dA s0 (mV b) (dC ..) hs) (mJ s0 (hl)) (lH s0 (mV b) (D.tup [D.str (S "GOSUB"),D.int p]) (dC ..) hs) (by trivial)))
end
section
open PySem.Spec
variable(n:Nat)(P:Pg)(b:Bool)(l:List (D×Int))(pile notes:List D)(a:Nat)(g g0:Int)(t:cO)(p g1:Int)
theorem iE(v:Int)(hn:t.dep≤n+2)(h12:t.dep<12)(hv:bE l t=v)(h4:v=0∨v=1∨v=2∨v=3):ay aP (n+4+1) 615 [.ob 11,t.toD] (bn P b l pile notes)=some (.int v,bn P b l pile notes):=by
 subst hv
 exact bw (f:=vf 96 2) (oV (s:=gv (.int (bE l t)) (bn P b l pile notes)::gv (.int (bE l t)) (bn P b l pile notes)::[]) (gV (n+2) P b l pile notes t hn h12) (I5 (n+1) (bE l t) (bn P b l pile notes) h4))
theorem vI(hs:small pile=true)(hl:decide ((20:Int)≤((aw pile:Nat):Int))=false):ay aP ((n+1)+1) 537 [.ob 12,.int p] (bn P b l pile notes)=some (D.none,(bn P b l (pile++[D.tup [D.str (S "GOSUB"),D.int p]]) notes)):=bw (f:=bj 86) (rK (s:=gv (D.none) (bn P b l (pile++[D.tup [D.str (S "GOSUB"),D.int p]]) notes)::[]) (Ky n P b l pile notes p hs hl))
theorem Ni(r:Int)(h1:aR P.places (.inl g)=some (.int r)):ay aP ((n+5)+1) 566 [.ob 11,.int (Int.ofNat a),.tup [.str (S "GOTO"),.int g]] (bn P b l pile notes)=some ((D.int r),(bn P b l pile notes)):=bw (f:=bj 92) (rK (s:=au 6 (gv (D.int r) (bn P b l pile notes)::au 1 [])) (fW (n+4) P b l pile notes g r h1))
theorem Pu(hn:t.dep≤n+3)(h12:t.dep<12)(hb:d5 (bE l t) 0=false):ay aP ((n+5)+1) 566 [.ob 11,.int (Int.ofNat a),.tup [.str (S "IFNOT"),t.toD,.int g]] (bn P b l pile notes)=some ((D.int (Int.ofNat a+1)),(bn P b l pile notes)):=bw (f:=bj 92) (let s0:St:=bn P b l pile notes;(oV (s:=au 3 (gv (D.int (bE l t)) s0::gv (D.bool true) s0::au 1 [])) (gV (n+3) P b l pile notes t hn h12) (lO (n+3) (bE l t) s0 hb)))
theorem Pv(hn:t.dep≤n+3)(h12:t.dep<12)(hb:d5 (bE l t) 0=true):ay aP ((n+5)+1) 566 [.ob 11,.int (Int.ofNat a),.tup [.str (S "IFNOT"),t.toD,.int g]] (bn P b l pile notes)=some ((D.int g),(bn P b l pile notes)):=bw (f:=bj 92) (let s0:St:=bn P b l pile notes;(oV (s:=au 3 (gv (D.int (bE l t)) s0::gv (D.bool false) s0::au 1 [])) (gV (n+3) P b l pile notes t hn h12) (lP (n+3) (bE l t) s0 hb)))
theorem Nh:ay aP ((n+5)+1) 566 [.ob 11,.int (Int.ofNat a),.tup [.str (S "JUMP"),.int g]] (bn P b l pile notes)=some ((D.int g),(bn P b l pile notes)):=bw (f:=bj 92) (Tv0 (s:=au 4 []))
theorem Kq(r:Int)(h1:aR P.places (.inl g)=some (.int r))(hs:small pile=true)(hl:decide ((20:Int)≤((aw pile:Nat):Int))=false):ay aP ((n+5)+1) 566 [.ob 11,.int (Int.ofNat a),.tup [.str (S "GOSUB"),.int g]] (bn P b l pile notes)=some ((D.int r),(bn P b l (pile++[D.tup [D.str (S "GOSUB"),D.int (Int.ofNat a+1)]]) notes)):=bw (f:=bj 92) (oV (s:=au 6 (gv (D.int r) (bn P b l pile notes)::au 2 (gv (D.none) (bn P b l (pile++[D.tup [D.str (S "GOSUB"),D.int (Int.ofNat a+1)]]) notes)::[]))) (fW (n+4) P b l pile notes g r h1) (vI (n+3) P b l pile notes (Int.ofNat a+1) hs hl))
theorem Cf(t:cO)(hn:t.dep≤n+2)(h12:t.dep<12)(hv:bE l t=0)(h4:(0:Int)=0∨(0:Int)=1∨(0:Int)=2∨(0:Int)=3):ay aP ((n+5)+1) 566 [.ob 11,.int (Int.ofNat a),.tup [.str (S "ONGO"),.str (S "GOTO"),t.toD,.lst [.int g0,.int g1]]] (bn P b l pile notes)=some ((D.int (Int.ofNat a+1)),(bn P b l pile notes)):=bw (f:=bj 92) (rK (s:=au 7 (gv (D.int (0)) (bn P b l pile notes)::au 5 [])) (iE n P b l pile notes t 0 hn h12 hv h4))
theorem Ce(t:cO)(hn:t.dep≤n+2)(h12:t.dep<12)(hv:bE l t=1)(h4:(1:Int)=0∨(1:Int)=1∨(1:Int)=2∨(1:Int)=3)(r:Int)(h1:aR P.places (.inl g0)=some (.int r)):ay aP ((n+5)+1) 566 [.ob 11,.int (Int.ofNat a),.tup [.str (S "ONGO"),.str (S "GOTO"),t.toD,.lst [.int g0,.int g1]]] (bn P b l pile notes)=some ((D.int r),(bn P b l pile notes)):=bw (f:=bj 92) (let s0:St:=bn P b l pile notes;(oV (s:=au 7 (gv (D.int (1)) s0::au 7 (gv (D.int r) s0::au 1 []))) (iE n P b l pile notes t 1 hn h12 hv h4) (fW (n+4) P b l pile notes g0 r h1)))
theorem Cd(t:cO)(hn:t.dep≤n+2)(h12:t.dep<12)(hv:bE l t=2)(h4:(2:Int)=0∨(2:Int)=1∨(2:Int)=2∨(2:Int)=3)(r:Int)(h1:aR P.places (.inl g1)=some (.int r)):ay aP ((n+5)+1) 566 [.ob 11,.int (Int.ofNat a),.tup [.str (S "ONGO"),.str (S "GOTO"),t.toD,.lst [.int g0,.int g1]]] (bn P b l pile notes)=some ((D.int r),(bn P b l pile notes)):=bw (f:=bj 92) (let s0:St:=bn P b l pile notes;(oV (s:=au 7 (gv (D.int (2)) s0::au 7 (gv (D.int r) s0::au 1 []))) (iE n P b l pile notes t 2 hn h12 hv h4) (fW (n+4) P b l pile notes g1 r h1)))
theorem Cc(t:cO)(hn:t.dep≤n+2)(h12:t.dep<12)(hv:bE l t=3)(h4:(3:Int)=0∨(3:Int)=1∨(3:Int)=2∨(3:Int)=3):ay aP ((n+5)+1) 566 [.ob 11,.int (Int.ofNat a),.tup [.str (S "ONGO"),.str (S "GOTO"),t.toD,.lst [.int g0,.int g1]]] (bn P b l pile notes)=some ((D.int (Int.ofNat a+1)),(bn P b l pile notes)):=bw (f:=bj 92) (rK (s:=au 7 (gv (D.int (3)) (bn P b l pile notes)::au 5 [])) (iE n P b l pile notes t 3 hn h12 hv h4))
theorem yT(t:cO)(hn:t.dep≤n+2)(h12:t.dep<12)(hv:bE l t=0)(h4:(0:Int)=0∨(0:Int)=1∨(0:Int)=2∨(0:Int)=3):ay aP ((n+5)+1) 566 [.ob 11,.int (Int.ofNat a),.tup [.str (S "ONGO"),.str (S "GOSUB"),t.toD,.lst [.int g0,.int g1]]] (bn P b l pile notes)=some ((D.int (Int.ofNat a+1)),(bn P b l pile notes)):=bw (f:=bj 92) (rK (s:=au 7 (gv (D.int (0)) (bn P b l pile notes)::au 5 [])) (iE n P b l pile notes t 0 hn h12 hv h4))
theorem yS(t:cO)(hn:t.dep≤n+2)(h12:t.dep<12)(hv:bE l t=1)(h4:(1:Int)=0∨(1:Int)=1∨(1:Int)=2∨(1:Int)=3)(r:Int)(h1:aR P.places (.inl g0)=some (.int r))(hs:small pile=true)(hl:decide ((20:Int)≤((aw pile:Nat):Int))=false):ay aP ((n+5)+1) 566 [.ob 11,.int (Int.ofNat a),.tup [.str (S "ONGO"),.str (S "GOSUB"),t.toD,.lst [.int g0,.int g1]]] (bn P b l pile notes)=some ((D.int r),(bn P b l (pile++[D.tup [D.str (S "GOSUB"),D.int (Int.ofNat a+1)]]) notes)):=bw (f:=bj 92) (let s0:St:=bn P b l pile notes;(HK (s:=au 7 (gv (D.int (1)) s0::au 7 (gv (D.int r) s0::au 2 (gv (D.none) (bn P b l (pile++[D.tup [D.str (S "GOSUB"),D.int (Int.ofNat a+1)]]) notes)::[])))) (iE n P b l pile notes t 1 hn h12 hv h4) (fW (n+4) P b l pile notes g0 r h1) (vI (n+3) P b l pile notes (Int.ofNat a+1) hs hl)))
theorem yR(t:cO)(hn:t.dep≤n+2)(h12:t.dep<12)(hv:bE l t=2)(h4:(2:Int)=0∨(2:Int)=1∨(2:Int)=2∨(2:Int)=3)(r:Int)(h1:aR P.places (.inl g1)=some (.int r))(hs:small pile=true)(hl:decide ((20:Int)≤((aw pile:Nat):Int))=false):ay aP ((n+5)+1) 566 [.ob 11,.int (Int.ofNat a),.tup [.str (S "ONGO"),.str (S "GOSUB"),t.toD,.lst [.int g0,.int g1]]] (bn P b l pile notes)=some ((D.int r),(bn P b l (pile++[D.tup [D.str (S "GOSUB"),D.int (Int.ofNat a+1)]]) notes)):=bw (f:=bj 92) (let s0:St:=bn P b l pile notes;(HK (s:=au 7 (gv (D.int (2)) s0::au 7 (gv (D.int r) s0::au 2 (gv (D.none) (bn P b l (pile++[D.tup [D.str (S "GOSUB"),D.int (Int.ofNat a+1)]]) notes)::[])))) (iE n P b l pile notes t 2 hn h12 hv h4) (fW (n+4) P b l pile notes g1 r h1) (vI (n+3) P b l pile notes (Int.ofNat a+1) hs hl)))
theorem yQ(t:cO)(hn:t.dep≤n+2)(h12:t.dep<12)(hv:bE l t=3)(h4:(3:Int)=0∨(3:Int)=1∨(3:Int)=2∨(3:Int)=3):ay aP ((n+5)+1) 566 [.ob 11,.int (Int.ofNat a),.tup [.str (S "ONGO"),.str (S "GOSUB"),t.toD,.lst [.int g0,.int g1]]] (bn P b l pile notes)=some ((D.int (Int.ofNat a+1)),(bn P b l pile notes)):=bw (f:=bj 92) (rK (s:=au 7 (gv (D.int (3)) (bn P b l pile notes)::au 5 [])) (iE n P b l pile notes t 3 hn h12 hv h4))
theorem Ps(gs:List Int)(hg:gs.length≤12):ay aP ((n+5)+1) 566 [.ob 11,.int (Int.ofNat a),.tup [.str (S "RETURN"),.none]] (bn P b l (aU (gs++[p])) notes)=some ((D.int p),(stK P b l (aU (gs++[p])) (aU gs) notes)):=bw (f:=bj 92) (rK (s:=au 4 (gv (D.int p) (stK P b l (aU (gs++[p])) (aU gs) notes)::au 2 [])) (pi (n+1) P b l notes p gs hg))
end
section
open PySem.Spec
noncomputable def bR(pl lim:Int):D:= .tup [.str (S "FOR"),.str (S "C"),.int pl,.int lim,.int 1]
noncomputable def bO(pl:Int):D:= .tup [.str (S "WHILE"),.int pl]
noncomputable def O4(o:Option (List D))(st:St):Sp:=(BC o st λ _ _=>.no).opt
section
variable(st:St)(i:Nat)
theorem ji(k:Nat){ds:List D}(h:aW st.σ i=some (.list ds))(hk:aw ds=k)(hs:small ds=true):rJ st .len [.ob i]=some (.int (Int.ofNat k),st):=hk▸dA st i h hs
theorem JQ(m:Nat){ds new:List D}(h:aW st.σ i=some (.list ds))(ht:gE m ds=new)(hs:small ds=true):tH true st (.ob i) .none (.int (Int.ofNat m))=some (.ob st.next,st.add (.list new)):=by
 subst ht
 show Option.bind ((aW st.σ i).bind iP) _=_
 rw[h]
 exact ae (λ b=>cond b (some (D.ob st.next,st.add (.list (gE m ds)))) none) hs
theorem gI(m:Nat)(h:m≤1000):iz (Int.ofNat m)=true:=(bp ..).mpr (aA h (by decide))
theorem sp(a b:Int):gZ [.int a,.int b]=cond (iz a&&iz b) (some (fE (b-a).toNat a 1)) none:=rfl
theorem pY(m:Nat)(h:m≤1000):O4 (gZ [.int (Int.ofNat m),.int (Int.ofNat m)]) st=some (.lst [],st):=by
 rw[sp,gI m h,Int.sub_self]
 rfl
theorem pX(m:Nat)(h:m+1≤1000):O4 (gZ [.int (Int.ofNat m),.int (Int.ofNat (m+1))]) st=some (.lst [.int (Int.ofNat m)],st):=by
 rw[sp,gI m (bQ h),gI (m+1) h,show Int.ofNat (m+1)-Int.ofNat m=1 from Int.sub_eq_iff_eq_add.mpr (Int.add_comm (Int.ofNat m) 1)]
 rfl
end
theorem d9(xs:List D)(e:D):aw (xs++[e])=aw xs+1:=by rw[bf,bf,List.length_append];rfl
theorem yh(xs:List D)(e:D):dj (xs++[e]) (aw xs)=some e:=by rw[hZ,bf];exact List.getElem?_concat_length
theorem uq(xs:List D)(e:D):gE (aw xs) (xs++[e])=xs:=by rw[bf];exact List.take_left
theorem xN(xs:List D)(e:D):gE (aw xs+1) (xs++[e])=xs++[e]:=List.take_of_length_le (aM ((bf _).symm.trans (d9 ..)))
theorem fX(a:Int):d5 a a=true:=(dm a a).trans (bI rfl)
theorem G8(pl:Int):gw (bO pl) (.tup [.str (S "WHILE"),.int pl])=some true:=(show gw (bO pl) (bO pl)=some (d5 pl pl&&true) by kernel_rfl).trans (ae (λ b=>some (b&&true)) (fX pl))
theorem GD(pl:Int):mu (.int pl) [.str (S ""),.int pl]=some true:=(show mu (.int pl) [.str (S ""),.int pl]=some (d5 pl pl||false) by kernel_rfl).trans (ae (λ b=>some (b||false)) (fX pl))
theorem xh(n:Nat)(P:Pg)(b:Bool)(l:List (D×Int))(notes:List D):∀gs:List Int,gs.length≤12→ay aP (n+1) 470 [.ob (mV b)] (bn P b l (aU gs) notes)=some (.int (Int.ofNat (aw (aU gs))),bn P b l (aU gs) notes):=by
 induction b using Bool.casesOn<;>exact cg (by kernel_rfl) λ a0=>cg (by kernel_rfl) λ a1=>cg (by kernel_rfl) λ a2=>cg (by kernel_rfl) λ a3=>cg (by kernel_rfl) λ a4=>cg (by kernel_rfl) λ a5=>cg (by kernel_rfl) λ a6=>cg (by kernel_rfl) λ a7=>cg (by kernel_rfl) λ a8=>cg (by kernel_rfl) λ a9=>cg (by kernel_rfl) λ a10=>cg (by kernel_rfl) λ a11=>yF (by kernel_rfl)
theorem KN(pl:Int):∀(n:Nat) (gs:List Int),gs.length≤12→ay aP (n+1) 470 [.lst (aU gs++[bO pl])] ⟨[],0⟩=some (.int (Int.ofNat (aw (aU gs))),⟨[],0⟩):=by
 intro n
 exact cg (by kernel_rfl) λ a0=>cg (by kernel_rfl) λ a1=>cg (by kernel_rfl) λ a2=>cg (by kernel_rfl) λ a3=>cg (by kernel_rfl) λ a4=>cg (by kernel_rfl) λ a5=>cg (by kernel_rfl) λ a6=>cg (by kernel_rfl) λ a7=>cg (by kernel_rfl) λ a8=>cg (by kernel_rfl) λ a9=>cg (by kernel_rfl) λ a10=>cg (by kernel_rfl) λ a11=>yF (by kernel_rfl)
theorem xg(n:Nat)(P:Pg)(b:Bool)(l:List (D×Int))(notes:List D)(pl:Int):∀gs:List Int,gs.length≤12→ay aP (n+1) 470 [.ob (mV b)] (bn P b l (aU gs++[bO pl]) notes)=some (.int (Int.ofNat (aw (aU gs))),bn P b l (aU gs++[bO pl]) notes):=by
 induction b using Bool.casesOn<;>exact cg (by kernel_rfl) λ a0=>cg (by kernel_rfl) λ a1=>cg (by kernel_rfl) λ a2=>cg (by kernel_rfl) λ a3=>cg (by kernel_rfl) λ a4=>cg (by kernel_rfl) λ a5=>cg (by kernel_rfl) λ a6=>cg (by kernel_rfl) λ a7=>cg (by kernel_rfl) λ a8=>cg (by kernel_rfl) λ a9=>cg (by kernel_rfl) λ a10=>cg (by kernel_rfl) λ a11=>yF (by kernel_rfl)
theorem GR(n:Nat)(P:Pg)(b:Bool)(l:List (D×Int))(notes:List D):∀gs:List Int,gs.length≤12→ay aP (n+2) 477 [.ob (mV b),.str (S "FOR"),.str (S "C")] (bn P b l (aU gs) notes)=some (.int (-1),bn P b l (aU gs) notes):=by
 induction b using Bool.casesOn<;>exact cg (by kernel_rfl) λ a0=>cg (by kernel_rfl) λ a1=>cg (by kernel_rfl) λ a2=>cg (by kernel_rfl) λ a3=>cg (by kernel_rfl) λ a4=>cg (by kernel_rfl) λ a5=>cg (by kernel_rfl) λ a6=>cg (by kernel_rfl) λ a7=>cg (by kernel_rfl) λ a8=>cg (by kernel_rfl) λ a9=>cg (by kernel_rfl) λ a10=>cg (by kernel_rfl) λ a11=>yF (by kernel_rfl)
theorem vN(n:Nat)(P:Pg)(b:Bool)(l:List (D×Int))(notes:List D)(pl lim:Int):∀gs:List Int,gs.length≤12→ay aP (n+2) 477 [.ob (mV b),.str (S "FOR"),.str (S "C")] (bn P b l (aU gs++[bR pl lim]) notes)=some (.int (Int.ofNat (aw (aU gs))),bn P b l (aU gs++[bR pl lim]) notes):=by
 induction b using Bool.casesOn<;>exact cg (by kernel_rfl) λ a0=>cg (by kernel_rfl) λ a1=>cg (by kernel_rfl) λ a2=>cg (by kernel_rfl) λ a3=>cg (by kernel_rfl) λ a4=>cg (by kernel_rfl) λ a5=>cg (by kernel_rfl) λ a6=>cg (by kernel_rfl) λ a7=>cg (by kernel_rfl) λ a8=>cg (by kernel_rfl) λ a9=>cg (by kernel_rfl) λ a10=>cg (by kernel_rfl) λ a11=>yF (by kernel_rfl)
end
section
open PySem.Spec
variable{xs:List D}{f:D→Option D}
section
variable(st:St)
theorem FL(k:Nat){ds:List D}(hk:aw ds=k)(hs:small ds=true):rJ st .len [.lst ds]=some (.int (Int.ofNat k),st):=hk▸ae (λ b=>cond b (some (D.int (aw ds:Nat),st)) none) hs
theorem sK(a:Nat){ds:List D}{d:D}(hb:Nat.blt a 1000000=true)(hn:dj ds a=some d):t8 (gB st (.lst ds) (.int (Int.ofNat a))) st=some (d,st):=by
 show t8 (cond (Nat.blt a 1000000) (dj ds a) none) st=_
 rw[hb,hn]
 rfl
theorem AY(a b c:Int):gZ [.int a,.int b,.int c]=cond (iz a&&(iz b&&decide (c= -1))) (some (fE (a-b).toNat a (-1))) none:=rfl
theorem yw(m:Nat)(h:m+1≤1000):O4 (gZ [.int (Int.ofNat (m+1)-1),.int (Int.ofNat m-1),.int (-1)]) st=some (.lst [.int (Int.ofNat m)],st):=by
 have h1:(Int.ofNat (m+1):Int)-1=Int.ofNat m:=Int.add_sub_cancel (Int.ofNat m) 1
 have h3:iz (Int.ofNat m-1)=true:=by
  induction m using Nat.casesOn with
  |zero=>kernel_rfl
  |succ k=>rw[show(Int.ofNat (k+1):Int)-1=Int.ofNat k from Int.add_sub_cancel (Int.ofNat k) 1];exact gI k (bQ (bQ h))
 rw[h1,AY,gI m (bQ h),h3,show Int.ofNat m-(Int.ofNat m-1)=1 from Int.sub_sub_self _ 1]
 rfl
theorem JP(pl:Int):mB (dF st .In (.int pl) (.tup [.str (S ""),.int pl])) st=some (.bool true,st):=ae (mB · st) (GD pl)
theorem BG(pl:Int):mB (dF st .Eq (bO pl) (.tup [.str (S "WHILE"),.int pl])) st=some (.bool true,st):=ae (mB · st) (G8 pl)
end
theorem AJ{n:Nat}(h:aw xs≤n)(hn:n≤1000000):small xs=true:=Nat.ble_eq.mpr (ad h hn)
theorem w9(gs:List Int):aw (aU gs)=gs.length:=(bf _).trans (aG ..)
theorem gL(f:D→Option D):cq f []=some []:=rfl
theorem bU{x y:D}{r s:List D}(hx:f x=some y)(hr:cq f r=some s):cq f (x::r)=some (y::s):=by
 show(f x).bind (λ y=>(cq f r).map (y::·))=_
 rw[hx,hr]
 rfl
theorem vM(k:Nat)(σ:List (Nat×aY))(w:Str)(z:Int):frz σ (k+1) (.tup [.str w,.int z])=some (.tup [.str w,.int z]):=ae (Option.map D.tup) (bU (rk σ k w) (bU (GP σ k z) (gL _)))
theorem CT(k:Nat)(σ:List (Nat×aY))(gs:List Int):cq (frz σ (k+1)) (aU gs)=some (aU gs):=by
 induction gs with
 |nil=>exact rfl
 |cons g gs ih=>exact bU (vM k σ _ g) ih
theorem sS{ys:List D}(h:cq f xs=some xs)(k:cq f ys=some ys):cq f (xs++ys)=some (xs++ys):=by
 induction xs with
 |nil=>exact k
 |cons x xs ih=>
  obtain⟨y,s,h1,h2,h3⟩:=lI h
  obtain⟨rfl,rfl⟩:=List.cons_eq_cons.mp h3
  exact bU h1 (ih h2)
theorem p6{e:D}(he:f e=some e){xs:List D}(h:cq f xs=some xs):cq f (xs++[e])=some (xs++[e]):=sS h (bU he (gL f))
structure Fx(gs:List Int)(E:D):Prop where
 hs:small (aU gs++[E])=true
 hb:Nat.blt (aw (aU gs)) 1000000=true
 hm:aw (aU gs)+1≤1000
 hk:aw (aU gs++[E])=aw (aU gs)+1
 hn:dj (aU gs++[E]) (aw (aU gs))=some E
 ht0:gE (aw (aU gs)) (aU gs++[E])=aU gs
 ht1:gE (aw (aU gs)+1) (aU gs++[E])=aU gs++[E]
theorem tj{gs:List Int}(h:gs.length≤12)(E:D):Fx gs E:=
 have h1:aw (aU gs)≤12:=w9 gs▸h
 have h2:=bK h1
 ⟨AJ (n:=13) (d9 .. ▸h2) (by decide),bp.mpr (aA h1 (by decide)),ad h2 (by decide),d9 _ _,yh _ _,uq _ _,xN _ _⟩
theorem GN(k:Nat)(σ:List (Nat×aY))(pl:Int):frz σ (k+2) (bO pl)=some (bO pl):=vM (k+1) σ _ pl
theorem Bb(P:Pg)(b:Bool)(l:List (D×Int))(old new notes:List D):aW (stK P b l old new notes).σ (Fv b)=some (.list new):=by induction b using Bool.casesOn<;>rfl
theorem sv(P:Pg)(b:Bool)(l:List (D×Int))(old new notes:List D):aW (stK P b l old new notes).σ 4=some (.dict P.pairs):=by induction b using Bool.casesOn<;>rfl
theorem MI(n:Nat)(P:Pg)(b:Bool)(l:List (D×Int))(pile notes:List D)(e:D)(hs:small pile=true)(hl:decide ((20:Int)≤((aw pile:Nat):Int))=false):ay aP (n+1) 463 [.ob 12,e] (bn P b l pile notes)=some (.none,bn P b l (pile++[e]) notes):=bw (f:=bj 75) (let s0:St:=bn P b l pile notes;(HK (s:=gv (D.int ↑(aw pile)) s0::gv (.bool false) s0::gv (D.none) (bn P b l (pile++[e]) notes)::[]) (dA s0 (mV b) (dC ..) hs) (mJ s0 (hl)) (lH s0 (mV b) e (dC ..) hs) (by trivial)))
theorem De(n:Nat)(P:Pg)(b:Bool)(l:List (D×Int))(pile notes:List D)(m:Nat)(new:List D)(hs:small pile=true)(ht:gE m pile=new):ay aP (n+1) 484 [.ob 12,.int (Int.ofNat m)] (bn P b l pile notes)=some (.none,stK P b l pile new notes):=bw (f:=bj 78) (rK (s:=gv (D.ob (Fv b)) ({σ:=[((Fv b),aY.list new),(14,aY.list notes),(12,aY.inst 452 [(S "pile",D.ob (mV b)),(S "most",D.int (20)),(S "failed_at",D.int ((-1)))]),(11,aY.inst 646 [(S "flat",D.ob 0),(S "values",D.ob 10),(S "worth_of",D.val (Value.ref 672)),(S "bits",D.int (16)),(S "digits",D.int (9)),(S "control",D.ob 12),(S "notes",D.ob 14)]),(10,aY.dict (dI l)),(1,aY.list P.1),(5,aY.dict P.4),(4,aY.dict P.3),(2,aY.dict P.2),(0,aY.inst 213 [(S "rows",D.ob 1),(S "places",D.ob 2),(S "data",D.ob 3),(S "pairs",D.ob 4),(S "loops",D.ob 5),(S "fns",D.ob 6)]),((mV b),aY.list pile)],next:=(Fv b+1)})::au 1 []) (JQ (bn P b l pile notes) (mV b) m (dC ..) ht hs) (by trivial))
theorem GQ(n:Nat)(pl:Int)(gs:List Int)(hg:gs.length≤12)(hs:small (aU gs++[bO pl])=true)(hb:Nat.blt (aw (aU gs)) 1000000=true)(hm:aw (aU gs)+1≤1000)(hk:aw (aU gs++[bO pl])=aw (aU gs)+1)(hn:dj (aU gs++[bO pl]) (aw (aU gs))=some (bO pl)):af (zq aP (ay aP (n+1)) (bj 77) [.lst (aU gs++[bO pl]),.str (S "WHILE"),.int pl] (⟨[],0⟩:Mine.St))= .val ((D.int (Int.ofNat (aw (aU gs))))) ({σ:=[],next:=0}):=(OK (s:=gv (D.int (Int.ofNat (aw (aU gs)+1))) ⟨[],0⟩::au 1 (gv (D.int (Int.ofNat (aw (aU gs)))) ⟨[],0⟩::au 1 (gv (D.lst [D.int (Int.ofNat (aw (aU gs)))]) ⟨[],0⟩::gv (D.tup [D.str (S "WHILE"),D.int pl]) ⟨[],0⟩::au 2 (gv (D.tup [D.str (S "WHILE"),D.int pl]) ⟨[],0⟩::au 1 (gv (D.bool true) ⟨[],0⟩::[]))))) (FL ⟨[],0⟩ (aw (aU gs)+1) hk hs) (KN pl n gs hg) (yw ⟨[],0⟩ (aw (aU gs)) hm) (sK ⟨[],0⟩ (aw (aU gs)) hb hn) (sK ⟨[],0⟩ (aw (aU gs)) hb hn) (JP ⟨[],0⟩ pl))
end
section
open PySem.Spec
variable(n:Nat)(P:Pg)(b:Bool)(l:List (D×Int))(notes:List D)(pl lim:Int)(gs:List Int)
theorem KH(hg:gs.length≤12)(hs:small (aU gs++[bO pl])=true)(hb:Nat.blt (aw (aU gs)) 1000000=true)(hm:aw (aU gs)+1≤1000)(hk:aw (aU gs++[bO pl])=aw (aU gs)+1)(hn:dj (aU gs++[bO pl]) (aw (aU gs))=some (bO pl)):
  ay aP (n+2) 477 [.ob (mV b),.str (S "WHILE"),.int pl] (bn P b l (aU gs++[bO pl]) notes)=some (.int (Int.ofNat (aw (aU gs))),bn P b l (aU gs++[bO pl]) notes):=by
 refine lw (f:=bj 77) (by kernel_rfl) (by kernel_rfl) (ds':=[.lst (aU gs++[bO pl]),.str (S "WHILE"),.int pl]) (bU ?_ (bU rfl (bU rfl (gL _)))) (GQ n pl gs hg hs hb hm hk hn) (by kernel_rfl)
 have f:=ae (Option.map D.lst) (p6 (f:=frz (bn P b l (aU gs++[bO pl]) notes).σ 11) (GN 9 _ pl) (CT 10 (bn P b l (aU gs++[bO pl]) notes).σ gs))
 induction b using Bool.casesOn<;>exact f
theorem vO(hg:gs.length≤12)(hs0:small (aU gs)=true)(hl:decide ((20:Int)≤((aw (aU gs):Nat):Int))=false):ay aP ((n+3)+1) 498 [.ob 12,.str (S "C"),.int pl,.int lim,.int 1] (bn P b l (aU gs) notes)=some (.none,bn P b l (aU gs++[bR pl lim]) notes):=bw (f:=bj 80) (oV (s:=gv (D.int ((-1))) (bn P b l (aU gs) notes)::au 1 (gv (D.none) (bn P b l (aU gs++[bR pl lim]) notes)::[])) (GR (n+1) P b l notes gs hg) (MI (n+2) P b l (aU gs) notes (D.tup [D.str (S "FOR"),D.str (S "C"),D.int pl,D.int lim,D.int (1)]) hs0 hl) (by trivial))
theorem ql(hg:gs.length≤12)(F:Fx gs (bR pl lim)):ay aP ((n+3)+1) 505 [.ob 12,.str (S "C")] (bn P b l (aU gs++[bR pl lim]) notes)=some (.str (S "C"),bn P b l (aU gs++[bR pl lim]) notes):=bw (f:=bj 81) (let s0:St:=bn P b l (aU gs++[bR pl lim]) notes;(oV (s:=gv (D.int (Int.ofNat (aw (aU gs)))) s0::au 1 (gv (D.tup [D.str (S "FOR"),D.str (S "C"),D.int pl,D.int lim,D.int (1)]) s0::au 1 [])) (vN (n+1) P b l notes pl lim gs hg) (dL s0 (mV b) (aw (aU gs)) (dC ..) F.hb F.hn) (by trivial)))
theorem zh(hg:gs.length≤12)(F:Fx gs (bR pl lim))(v w:Int)(Rp:ay aP (n+8) 636 [.ob 11,.int v,.int 1] (bn P b l (aU gs++[bR pl lim]) notes)=some (.int w,(bn P b l (aU gs++[bR pl lim]) notes)))(Ri:ay aP (n+8) 491 [.int w,.int lim,.int 1,.val (.ref 435)] (bn P b l (aU gs++[bR pl lim]) notes)=some (.bool true,(bn P b l (aU gs++[bR pl lim]) notes))):ay aP ((n+8)+1) 512 [.ob 12,.str (S "C"),.int v,.meth (.ref 636) 11,.val (.ref 435)] (bn P b l (aU gs++[bR pl lim]) notes)=some (.tup [.int w,.none],stK P b l (aU gs++[bR pl lim]) (aU gs) notes):=bw (f:=bj 82) (let s0:St:=bn P b l (aU gs++[bR pl lim]) notes;(Tv5 (s:=gv (D.int (Int.ofNat (aw (aU gs)))) s0::au 1 (gv (D.tup [D.str (S "FOR"),D.str (S "C"),D.int pl,D.int lim,D.int (1)]) s0::gv (D.int w) s0::gv (D.bool true) s0::gv (D.none) (stK P b l (aU gs++[bR pl lim]) (aU gs) notes)::[])) (vN (n+6) P b l notes pl lim gs hg) (dL s0 (mV b) (aw (aU gs)) (dC ..) F.hb F.hn) Rp Ri (De (n+7) P b l (aU gs++[bR pl lim]) notes (aw (aU gs)) (aU gs) F.hs F.ht0) (by trivial)))
theorem zi(hg:gs.length≤12)(F:Fx gs (bR pl lim))(v w:Int)(Rp:ay aP (n+8) 636 [.ob 11,.int v,.int 1] (bn P b l (aU gs++[bR pl lim]) notes)=some (.int w,(bn P b l (aU gs++[bR pl lim]) notes)))(Ri:ay aP (n+8) 491 [.int w,.int lim,.int 1,.val (.ref 435)] (bn P b l (aU gs++[bR pl lim]) notes)=some (.bool false,(bn P b l (aU gs++[bR pl lim]) notes))):ay aP ((n+8)+1) 512 [.ob 12,.str (S "C"),.int v,.meth (.ref 636) 11,.val (.ref 435)] (bn P b l (aU gs++[bR pl lim]) notes)=some (.tup [.int w,.int pl],stK P b l (aU gs++[bR pl lim]) (aU gs++[bR pl lim]) notes):=bw (f:=bj 82) (let s0:St:=bn P b l (aU gs++[bR pl lim]) notes;(Tv5 (s:=gv (D.int (Int.ofNat (aw (aU gs)))) s0::au 1 (gv (D.tup [D.str (S "FOR"),D.str (S "C"),D.int pl,D.int lim,D.int (1)]) s0::gv (D.int w) s0::gv (D.bool false) s0::au 1 (gv (D.none) (stK P b l (aU gs++[bR pl lim]) (aU gs++[bR pl lim]) notes)::[]))) (vN (n+6) P b l notes pl lim gs hg) (dL s0 (mV b) (aw (aU gs)) (dC ..) F.hb F.hn) Rp Ri (De (n+7) P b l (aU gs++[bR pl lim]) notes (aw (aU gs)+1) (aU gs++[bR pl lim]) F.hs F.ht1) (by trivial)))
theorem qy(hg:gs.length≤12)(hs0:small (aU gs)=true)(hm:aw (aU gs)+1≤1000)(hm0:aw (aU gs)≤1000)(hl:decide ((20:Int)≤((aw (aU gs):Nat):Int))=false):ay aP ((n+3)+1) 517 [.ob 12,.int pl] (bn P b l (aU gs) notes)=some (.none,bn P b l (aU gs++[bO pl]) notes):=bw (f:=bj 83) (let s0:St:=bn P b l (aU gs) notes;(IQ (s:=gv (D.int (Int.ofNat (aw (aU gs)))) s0::gv (D.int ↑(aw (List.map (λ g=>D.tup [D.str (S "GOSUB"),D.int g]) gs))) s0::gv (D.lst []) s0::au 1 (gv (D.none) (bn P b l (aU gs++[D.tup [D.str (S "WHILE"),D.int pl]]) notes)::[])) (xh (n+2) P b l notes gs hg) (dA s0 (mV b) (dC ..) hs0) (pY s0 (aw (aU gs)) hm0) (MI (n+2) P b l (aU gs) notes (D.tup [D.str (S "WHILE"),D.int pl]) hs0 hl) (by trivial)))
theorem qx(hg:gs.length≤12)(F:Fx gs (bO pl)):ay aP ((n+3)+1) 517 [.ob 12,.int pl] (bn P b l (aU gs++[bO pl]) notes)=some (.none,stK P b l (aU gs++[bO pl]) (aU gs++[bO pl]) notes):=bw (f:=bj 83) (let s0:St:=bn P b l (aU gs++[bO pl]) notes;(OK (s:=gv (D.int (Int.ofNat (aw (aU gs)))) s0::gv (D.int (Int.ofNat (aw (aU gs)+1))) s0::gv (D.lst [D.int (Int.ofNat (aw (aU gs)))]) s0::gv (D.tup [D.str (S "WHILE"),D.int pl]) s0::gv (D.bool true) s0::au 4 (gv (D.none) (stK P b l (aU gs++[bO pl]) (aU gs++[bO pl]) notes)::[])) (xg (n+2) P b l notes pl gs hg) (ji s0 (mV b) (aw (aU gs)+1) (dC ..) F.hk F.hs) (pX s0 (aw (aU gs)) F.hm) (dL s0 (mV b) (aw (aU gs)) (dC ..) F.hb F.hn) (BG s0 pl) (De (n+2) P b l (aU gs++[bO pl]) notes (aw (aU gs)+1) (aU gs++[bO pl]) F.hs F.ht1) (by trivial)))
theorem ue(hg:gs.length≤12)(hs0:small (aU gs)=true)(hm:aw (aU gs)≤1000):ay aP ((n+3)+1) 522 [.ob 12,.int pl] (bn P b l (aU gs) notes)=some (.none,bn P b l (aU gs) notes):=bw (f:=bj 84) (let s0:St:=bn P b l (aU gs) notes;(HK (s:=gv (D.int (Int.ofNat (aw (aU gs)))) s0::gv (D.int ↑(aw (List.map (λ g=>D.tup [D.str (S "GOSUB"),D.int g]) gs))) s0::gv (D.lst []) s0::au 1 []) (xh (n+2) P b l notes gs hg) (dA s0 (mV b) (dC ..) hs0) (pY s0 (aw (aU gs)) hm) (by trivial)))
theorem ud(hg:gs.length≤12)(F:Fx gs (bO pl)):ay aP ((n+3)+1) 522 [.ob 12,.int pl] (bn P b l (aU gs++[bO pl]) notes)=some (.none,stK P b l (aU gs++[bO pl]) (aU gs) notes):=bw (f:=bj 84) (let s0:St:=bn P b l (aU gs++[bO pl]) notes;(OK (s:=gv (D.int (Int.ofNat (aw (aU gs)))) s0::gv (D.int (Int.ofNat (aw (aU gs)+1))) s0::gv (D.lst [D.int (Int.ofNat (aw (aU gs)))]) s0::gv (D.tup [D.str (S "WHILE"),D.int pl]) s0::gv (D.bool true) s0::au 3 (gv (D.none) (stK P b l (aU gs++[bO pl]) (aU gs) notes)::[])) (xg (n+2) P b l notes pl gs hg) (ji s0 (mV b) (aw (aU gs)+1) (dC ..) F.hk F.hs) (pX s0 (aw (aU gs)) F.hm) (dL s0 (mV b) (aw (aU gs)) (dC ..) F.hb F.hn) (BG s0 pl) (De (n+2) P b l (aU gs++[bO pl]) notes (aw (aU gs)) (aU gs) F.hs F.ht0) (by trivial)))
theorem rZ(hg:gs.length≤12)(F:Fx gs (bO pl)):ay aP ((n+3)+1) 530 [.ob 12,.int pl] (bn P b l (aU gs++[bO pl]) notes)=some (.int pl,stK P b l (aU gs++[bO pl]) (aU gs++[bO pl]) notes):=bw (f:=bj 85) (let s0:St:=stK P b l (aU gs++[bO pl]) (aU gs++[bO pl]) notes;(HK (s:=gv (D.int (Int.ofNat (aw (aU gs)))) (bn P b l (aU gs++[bO pl]) notes)::au 2 (gv (D.none) s0::gv (D.tup [D.str (S "WHILE"),D.int pl]) s0::au 1 [])) (KH (n+1) P b l notes pl gs hg F.hs F.hb F.hm F.hk F.hn) (De (n+2) P b l (aU gs++[bO pl]) notes (aw (aU gs)+1) (aU gs++[bO pl]) F.hs F.ht1) (dL s0 (Fv b) (aw (aU gs)) (Bb ..) F.hb F.hn) (by trivial)))
end
section
open PySem.Spec
variable(n:Nat)(P:Pg)(b:Bool)(l:List (D×Int))(notes:List D)(a:Nat)(lim:Int)(gs:List Int)
theorem uh(pile notes:List D)(x:String)(v:Int)(hv:valI l x=v):ay aP (n+1) 622 [.ob 11,.str (S x)] (bn P b l pile notes)=some (.int v,bn P b l pile notes):=by
 subst hv;exact Ab n P b l pile notes x
theorem wt(pile notes:List D)(z:Int):ay aP (n+2) 608 [.ob 11,.tup [.str (S "whole"),.int z]] (bn P b l pile notes)=some (.int z,bn P b l pile notes):=
 gV n P b l pile notes (.wh z) (bo _) (by show 0<12;omega)
theorem FJ(old new notes:List D)(x:String)(v:Int)(hs:small (dI l)=true):AG (l5 (stK P b l old new notes) (.ob 10) (.str (S x)) (.int v))=some (.none,stK P b (cN l x v) old new notes):=by
 cases b<;>(rw[vd _ 10 (.str (S x)) (.int v) (es:=dI l) (kk:= .inr (S x)) rfl rfl hs,sr];rfl)
theorem AB(old new notes:List D)(x:String)(v:Int)(hs:small (dI l)=true):ay aP (n+1) 629 [.ob 11,.str (S x),.int v] (stK P b l old new notes)=some (.none,stK P b (cN l x v) old new notes):=bw (f:=vf 96 4) (rK (s:=gv (D.none) (stK P b (cN l x v) old new notes)::[]) (FJ P b l old new notes x v hs) (by trivial))
theorem Hb(old new notes:List D)(a r:Int)(h1:aR P.pairs (.inl a)=some (.int r)):ay aP (n+1) 287 [.ob 0,.int a] (stK P b l old new notes)=some (.int r,stK P b l old new notes):=bw (f:=bj 45) (let s0:St:=stK P b l old new notes;(oV (s:=gv (D.bool false) s0::gv (D.int r) s0::[]) (iN s0 4 (D.int a) (sv ..) (by kernel_rfl) h1) (fR s0 4 (D.int a) (sv ..) (by kernel_rfl) h1) (by trivial)))
theorem va(pl lim:Int)(a:Nat)(gs:List Int)(hg:gs.length≤12)(F:Fx gs (bR pl lim))(v w:Int)(Rp:ay aP (n+8) 636 [.ob 11,.int v,.int 1] (bn P b l (aU gs++[bR pl lim]) notes)=some (.int w,(bn P b l (aU gs++[bR pl lim]) notes)))(Ri:ay aP (n+8) 491 [.int w,.int lim,.int 1,.val (.ref 435)] (bn P b l (aU gs++[bR pl lim]) notes)=some (.bool true,(bn P b l (aU gs++[bR pl lim]) notes)))(hv:valI l "C"=v)(hz:small (dI l)=true):ay aP ((n+9)+1) 587 [.ob 11,.int (Int.ofNat a),.lst [.str (S "C")]] (bn P b l (aU gs++[bR pl lim]) notes)=some (.int (Int.ofNat a+1),stK P b (cN l "C" w) (aU gs++[bR pl lim]) (aU gs) notes):=bw (f:=bj 95) (let s0:St:=bn P b l (aU gs++[bR pl lim]) notes;(IQ (s:=gv (D.str (S "C")) s0::gv (D.int v) s0::gv (D.tup [D.int w,D.none]) (stK P b l (aU gs++[bR pl lim]) (aU gs) notes)::gv (D.none) (stK P b (cN l "C" w) (aU gs++[bR pl lim]) (aU gs) notes)::au 2 []) (ql (n+5) P b l notes pl lim gs hg F) (uh (n+8) P b l (aU gs++[bR pl lim]) notes "C" v hv) (zh n P b l notes pl lim gs hg F v w Rp Ri) (AB (n+8) P b l (aU gs++[bR pl lim]) (aU gs) notes "C" w hz) (by trivial)))
theorem vb(pl lim:Int)(a:Nat)(gs:List Int)(hg:gs.length≤12)(F:Fx gs (bR pl lim))(v w:Int)(Rp:ay aP (n+8) 636 [.ob 11,.int v,.int 1] (bn P b l (aU gs++[bR pl lim]) notes)=some (.int w,(bn P b l (aU gs++[bR pl lim]) notes)))(Ri:ay aP (n+8) 491 [.int w,.int lim,.int 1,.val (.ref 435)] (bn P b l (aU gs++[bR pl lim]) notes)=some (.bool false,(bn P b l (aU gs++[bR pl lim]) notes)))(hv:valI l "C"=v)(hz:small (dI l)=true):ay aP ((n+9)+1) 587 [.ob 11,.int (Int.ofNat a),.lst [.str (S "C")]] (bn P b l (aU gs++[bR pl lim]) notes)=some (.int pl,stK P b (cN l "C" w) (aU gs++[bR pl lim]) (aU gs++[bR pl lim]) notes):=bw (f:=bj 95) (let s0:St:=bn P b l (aU gs++[bR pl lim]) notes;(IQ (s:=gv (D.str (S "C")) s0::gv (D.int v) s0::gv (D.tup [D.int w,D.int pl]) (stK P b l (aU gs++[bR pl lim]) (aU gs++[bR pl lim]) notes)::gv (D.none) (stK P b (cN l "C" w) (aU gs++[bR pl lim]) (aU gs++[bR pl lim]) notes)::au 1 []) (ql (n+5) P b l notes pl lim gs hg F) (uh (n+8) P b l (aU gs++[bR pl lim]) notes "C" v hv) (zi n P b l notes pl lim gs hg F v w Rp Ri) (AB (n+8) P b l (aU gs++[bR pl lim]) (aU gs++[bR pl lim]) notes "C" w hz) (by trivial)))
theorem Hd(hg:gs.length≤12)(hs0:small (aU gs)=true)(hl:decide ((20:Int)≤((aw (aU gs):Nat):Int))=false)(hz:small (dI l)=true)(hv:valI (cN l "C" 0) "C"=0)(Ri:ay aP (n+9) 491 [.int 0,.int lim,.int 1,.val (.ref 435)] (bn P b (cN l "C" 0) (aU gs) notes)=some (.bool false,(bn P b (cN l "C" 0) (aU gs) notes))):ay aP ((n+9)+1) 580 [.ob 11,.int (Int.ofNat a),.tup [.str (S "FOR"),.str (S "C"),.tup [.str (S "whole"),.int 0],.tup [.str (S "whole"),.int lim],.none]] (bn P b l (aU gs) notes)=some (.int (Int.ofNat a+1),bn P b (cN l "C" 0) (aU gs++[bR (Int.ofNat a+1) lim]) notes):=bw (f:=bj 94) (let s0:St:=bn P b (cN l "C" 0) (aU gs) notes;let s1:St:=bn P b l (aU gs) notes;(OK (s:=gv (D.int (0)) s1::gv (D.int lim) s1::au 4 (gv (D.none) s0::gv (D.int (0)) s0::gv (D.bool false) s0::au 1 (gv (D.none) (bn P b (cN l "C" 0) (aU gs++[bR (Int.ofNat a+1) lim]) notes)::au 1 []))) (wt (n+7) P b l (aU gs) notes (0)) (wt (n+7) P b l (aU gs) notes lim) (AA (n+8) P b l (aU gs) notes "C" (0) hz) (uh (n+8) P b (cN l "C" 0) (aU gs) notes "C" 0 hv) Ri (vO (n+5) P b (cN l "C" 0) notes (Int.ofNat a+1) lim gs hg hs0 hl) (by trivial)))
end
section
open PySem.Spec
variable(n:Nat)(P:Pg)(b:Bool)(l:List (D×Int))(notes:List D)(pl lim:Int)(a:Nat)(gs:List Int)(st:St)(w:PySem.Str)(pile:List D)
theorem Pm(hg:gs.length≤12)(hs0:small (aU gs)=true)(hm:aw (aU gs)+1≤1000)(hm0:aw (aU gs)≤1000)(hl:decide ((20:Int)≤((aw (aU gs):Nat):Int))=false)(t:cO)(hd:t.dep≤n+8)(h12:t.dep<12)(hbb:d5 (bE l t) 0=false):ay aP ((n+10)+1) 573 [.ob 11,.int (Int.ofNat a),.tup [.str (S "WHILE"),t.toD]] (bn P b l (aU gs) notes)=some (.int (Int.ofNat a+1),bn P b l (aU gs++[bO (Int.ofNat a)]) notes):=bw (f:=bj 93) (let s0:St:=bn P b l (aU gs) notes;(HK (s:=au 5 (gv (D.int (bE l t)) s0::gv (D.bool true) s0::gv (D.none) (bn P b l (aU gs++[bO (Int.ofNat a)]) notes)::au 1 [])) (gV (n+8) P b l (aU gs) notes t hd h12) (lO (n+8) (bE l t) s0 hbb) (qy (n+6) P b l notes (Int.ofNat a) gs hg hs0 hm hm0 hl) (by trivial)))
theorem Pl(hg:gs.length≤12)(F:Fx gs (bO (Int.ofNat a)))(t:cO)(hd:t.dep≤n+8)(h12:t.dep<12)(hbb:d5 (bE l t) 0=false):ay aP ((n+10)+1) 573 [.ob 11,.int (Int.ofNat a),.tup [.str (S "WHILE"),t.toD]] (bn P b l (aU gs++[bO (Int.ofNat a)]) notes)=some (.int (Int.ofNat a+1),stK P b l (aU gs++[bO (Int.ofNat a)]) (aU gs++[bO (Int.ofNat a)]) notes):=bw (f:=bj 93) (let s0:St:=bn P b l (aU gs++[bO (Int.ofNat a)]) notes;(HK (s:=au 5 (gv (D.int (bE l t)) s0::gv (D.bool true) s0::gv (D.none) (stK P b l (aU gs++[bO (Int.ofNat a)]) (aU gs++[bO (Int.ofNat a)]) notes)::au 1 [])) (gV (n+8) P b l (aU gs++[bO (Int.ofNat a)]) notes t hd h12) (lO (n+8) (bE l t) s0 hbb) (qx (n+6) P b l notes (Int.ofNat a) gs hg F) (by trivial)))
theorem Po(hg:gs.length≤12)(hs0:small (aU gs)=true)(hm:aw (aU gs)≤1000)(t:cO)(hd:t.dep≤n+8)(h12:t.dep<12)(hbb:d5 (bE l t) 0=true)(r:Int)(h1:aR P.pairs (.inl (Int.ofNat a))=some (.int r)):ay aP ((n+10)+1) 573 [.ob 11,.int (Int.ofNat a),.tup [.str (S "WHILE"),t.toD]] (bn P b l (aU gs) notes)=some (.int (r+1),bn P b l (aU gs) notes):=bw (f:=bj 93) (let s0:St:=bn P b l (aU gs) notes;(IQ (s:=au 5 (gv (D.int (bE l t)) s0::gv (D.bool false) s0::gv (D.none) s0::gv (D.int r) s0::au 1 [])) (gV (n+8) P b l (aU gs) notes t hd h12) (lP (n+8) (bE l t) s0 hbb) (ue (n+6) P b l notes (Int.ofNat a) gs hg hs0 hm) (xn (n+9) P b l (aU gs) notes (Int.ofNat a) r h1) (by trivial)))
theorem Pn(hg:gs.length≤12)(F:Fx gs (bO (Int.ofNat a)))(t:cO)(hd:t.dep≤n+8)(h12:t.dep<12)(hbb:d5 (bE l t) 0=true)(r:Int)(h1:aR P.pairs (.inl (Int.ofNat a))=some (.int r)):ay aP ((n+10)+1) 573 [.ob 11,.int (Int.ofNat a),.tup [.str (S "WHILE"),t.toD]] (bn P b l (aU gs++[bO (Int.ofNat a)]) notes)=some (.int (r+1),stK P b l (aU gs++[bO (Int.ofNat a)]) (aU gs) notes):=bw (f:=bj 93) (let s0:St:=stK P b l (aU gs++[bO (Int.ofNat a)]) (aU gs) notes;let s1:St:=bn P b l (aU gs++[bO (Int.ofNat a)]) notes;(IQ (s:=au 5 (gv (D.int (bE l t)) s1::gv (D.bool false) s1::gv (D.none) s0::gv (D.int r) s0::au 1 [])) (gV (n+8) P b l (aU gs++[bO (Int.ofNat a)]) notes t hd h12) (lP (n+8) (bE l t) s1 hbb) (ud (n+6) P b l notes (Int.ofNat a) gs hg F) (Hb (n+9) P b l (aU gs++[bO (Int.ofNat a)]) (aU gs) notes (Int.ofNat a) r h1) (by trivial)))
theorem Nd(pl:Int)(gs:List Int)(hg:gs.length≤12)(F:Fx gs (bO pl))(h1:aR P.pairs (.inl (Int.ofNat a))=some (.int pl)):ay aP ((n+10)+1) 573 [.ob 11,.int (Int.ofNat a),.tup [.str (S "WEND")]] (bn P b l (aU gs++[bO pl]) notes)=some (.int pl,stK P b l (aU gs++[bO pl]) (aU gs++[bO pl]) notes):=bw (f:=bj 93) (oV (s:=au 4 (gv (D.int pl) (bn P b l (aU gs++[bO pl]) notes)::gv (D.int pl) (stK P b l (aU gs++[bO pl]) (aU gs++[bO pl]) notes)::[])) (xn (n+9) P b l (aU gs++[bO pl]) notes (Int.ofNat a) pl h1) (rZ (n+6) P b l notes pl gs hg F) (by trivial))
theorem Pp(lim:Int)(gs:List Int)(hg:gs.length≤12)(hs0:small (aU gs)=true)(hl:decide ((20:Int)≤((aw (aU gs):Nat):Int))=false)(hz:small (dI l)=true)(hv:valI (cN l "C" 0) "C"=0)(Ri:ay aP (n+9) 491 [.int 0,.int lim,.int 1,.val (.ref 435)] (bn P b (cN l "C" 0) (aU gs) notes)=some (.bool false,(bn P b (cN l "C" 0) (aU gs) notes))):ay aP ((n+10)+1) 573 [.ob 11,.int (Int.ofNat a),.tup [.str (S "FOR"),.str (S "C"),.tup [.str (S "whole"),.int 0],.tup [.str (S "whole"),.int lim],.none]] (bn P b l (aU gs) notes)=some (.int (Int.ofNat a+1),bn P b (cN l "C" 0) (aU gs++[bR (Int.ofNat a+1) lim]) notes):=bw (f:=bj 93) (rK (s:=au 2 (gv (D.int (Int.ofNat a+1)) (bn P b (cN l "C" 0) (aU gs++[bR (Int.ofNat a+1) lim]) notes)::[])) (Hd n P b l notes a lim gs hg hs0 hl hz hv Ri) (by trivial))
theorem Ko(hg:gs.length≤12)(F:Fx gs (bR pl lim))(v w:Int)(Rp:ay aP (n+8) 636 [.ob 11,.int v,.int 1] (bn P b l (aU gs++[bR pl lim]) notes)=some (.int w,(bn P b l (aU gs++[bR pl lim]) notes)))(Ri:ay aP (n+8) 491 [.int w,.int lim,.int 1,.val (.ref 435)] (bn P b l (aU gs++[bR pl lim]) notes)=some (.bool true,(bn P b l (aU gs++[bR pl lim]) notes)))(hv:valI l "C"=v)(hz:small (dI l)=true):ay aP ((n+10)+1) 573 [.ob 11,.int (Int.ofNat a),.tup [.str (S "NEXT"),.lst [.str (S "C")]]] (bn P b l (aU gs++[bR pl lim]) notes)=some (.int (Int.ofNat a+1),stK P b (cN l "C" w) (aU gs++[bR pl lim]) (aU gs) notes):=bw (f:=bj 93) (rK (s:=au 7 (gv (D.int (Int.ofNat a+1)) (stK P b (cN l "C" w) (aU gs++[bR pl lim]) (aU gs) notes)::[])) (va n P b l notes pl lim a gs hg F v w Rp Ri hv hz) (by trivial))
theorem Kp(hg:gs.length≤12)(F:Fx gs (bR pl lim))(v w:Int)(Rp:ay aP (n+8) 636 [.ob 11,.int v,.int 1] (bn P b l (aU gs++[bR pl lim]) notes)=some (.int w,(bn P b l (aU gs++[bR pl lim]) notes)))(Ri:ay aP (n+8) 491 [.int w,.int lim,.int 1,.val (.ref 435)] (bn P b l (aU gs++[bR pl lim]) notes)=some (.bool false,(bn P b l (aU gs++[bR pl lim]) notes)))(hv:valI l "C"=v)(hz:small (dI l)=true):ay aP ((n+10)+1) 573 [.ob 11,.int (Int.ofNat a),.tup [.str (S "NEXT"),.lst [.str (S "C")]]] (bn P b l (aU gs++[bR pl lim]) notes)=some (.int pl,stK P b (cN l "C" w) (aU gs++[bR pl lim]) (aU gs++[bR pl lim]) notes):=bw (f:=bj 93) (rK (s:=au 7 (gv (D.int pl) (stK P b (cN l "C" w) (aU gs++[bR pl lim]) (aU gs++[bR pl lim]) notes)::[])) (vb n P b l notes pl lim a gs hg F v w Rp Ri hv hz) (by trivial))
theorem BF(ds:List D)(c:Bool)(h:mu (.str w) ds=some c):mB (dF st .In (.str w) (.tup ds)) st=some (.bool c,st):=ae (mB · st) h
theorem dk(x:PySem.Str)(c:Bool)(h:gw (.str w) (.str x)=some c):mB (dF st .Eq (.str w) (.str x)) st=some (.bool c,st):=ae (mB · st) h
theorem fJ(notes:List D)(a:Nat)(r:D)(st2:Mine.St)(w:PySem.Str)(rest:List D)(hj:mu (.str w) [.str (S "IFNOT"),.str (S "JUMP"),.str (S "GOTO"),.str (S "GOSUB"),.str (S "ONGO"),.str (S "RETURN")]=some true)(R:ay aP n 566 [.ob 11,.int (Int.ofNat a),.tup (.str w::rest)] (bn P b l pile notes)=some (r,st2)):ay aP (n+1) 559 [.ob 11,.int (Int.ofNat a),.tup (.str w::rest)] (bn P b l pile notes)=some (r,st2):=bw (f:=bj 91) (let s0:St:=bn P b l pile notes;(oV (s:=au 1 (gv (D.bool true) s0::gv (r) (st2)::[])) (BF s0 w [D.str (S "IFNOT"),D.str (S "JUMP"),D.str (S "GOTO"),D.str (S "GOSUB"),D.str (S "ONGO"),D.str (S "RETURN")] true hj) R))
theorem fL(notes:List D)(a:Nat)(r:D)(st2:Mine.St)(w:PySem.Str)(rest:List D)(hj:mu (.str w) [.str (S "IFNOT"),.str (S "JUMP"),.str (S "GOTO"),.str (S "GOSUB"),.str (S "ONGO"),.str (S "RETURN")]=some false)(R:ay aP n 573 [.ob 11,.int (Int.ofNat a),.tup (.str w::rest)] (bn P b l pile notes)=some (r,st2)):ay aP (n+1) 559 [.ob 11,.int (Int.ofNat a),.tup (.str w::rest)] (bn P b l pile notes)=some (r,st2):=bw (f:=bj 91) (let s0:St:=bn P b l pile notes;(oV (s:=au 1 (gv (D.bool false) s0::gv (r) (st2)::[])) (BF s0 w [D.str (S "IFNOT"),D.str (S "JUMP"),D.str (S "GOTO"),D.str (S "GOSUB"),D.str (S "ONGO"),D.str (S "RETURN")] false hj) R))
theorem Mk(notes:List D)(a:Nat)(tn ln:Int)(h1:small P.rows=true)(h2:decide (((aw P.rows:Nat):Int)≤(a:Int))=false)(h3:Nat.blt a 1000000=true)(r:D)(st2:Mine.St)(w:PySem.Str)(rest:List D)(e1:gw (.str w) (.str (S "LET"))=some false)(e2:gw (.str w) (.str (S "REM"))=some false)(e3:gw (.str w) (.str (S "END"))=some false)(h4:dj P.rows a=some (.tup [.int ln,.tup (.str w::rest)]))(R:ay aP n 559 [.ob 11,.int (Int.ofNat a),.tup (.str w::rest)] (bn P b l pile notes)=some (r,st2))(k:Mine.Loc→Mine.St→aD):af (br (ec aP (ay aP n) 40 tg.ns) Ei (qZ (Int.ofNat a) tn) (bn P b l pile notes) k)=af (k [(S "self",D.ob 11),(S "at",r),(S "most",D.int (50)),(S "turn",D.int tn),(S "statement",D.tup (D.str w::rest))] st2):=(let s0:St:=bn P b l pile notes;(P8 (s:=gv (D.int ↑(aw P.1)) s0::gv (.bool false) s0::gv (D.tup [D.int ln,D.tup (D.str w::rest)]) s0::au 2 (gv (D.bool false) s0::au 1 (gv (D.bool false) s0::au 1 (gv (D.bool false) s0::gv (r) (st2)::[])))) (dA s0 1 (by kernel_rfl) h1) (mJ s0 (h2)) (dL s0 1 a (by kernel_rfl) h3 h4) (dk s0 w (S "LET") false e1) (dk s0 w (S "REM") false e2) (dk s0 w (S "END") false e3) R))
theorem O1(notes:List D)(a:Nat)(tn ln:Int)(h1:small P.rows=true)(h2:decide (((aw P.rows:Nat):Int)≤(a:Int))=false)(h3:Nat.blt a 1000000=true)(x:String)(t:cO)(hd:t.dep≤n)(h12:t.dep<12)(hz:small (dI l)=true)(h4:dj P.rows a=some (.tup [.int ln,.tup [.str (S "LET"),.tup [.str (S "name"),.str (S x)],t.toD]]))(k:Mine.Loc→Mine.St→aD):af (br (ec aP (ay aP (n+2)) 40 tg.ns) Ei (qZ (Int.ofNat a) tn) (bn P b l pile notes) k)=af (k [(S "self",D.ob 11),(S "at",D.int (Int.ofNat a+1)),(S "most",D.int (50)),(S "turn",D.int tn),(S "statement",D.tup [D.str (S "LET"),D.tup [D.str (S "name"),D.str (S x)],t.toD])] (bn P b (cN l x (bE l t)) pile notes)):=(let s0:St:=bn P b l pile notes;(Qa (s:=gv (D.int ↑(aw P.1)) s0::gv (.bool false) s0::gv (D.tup [D.int ln,D.tup [D.str (S "LET"),D.tup [D.str (S "name"),D.str (S x)],t.toD]]) s0::au 6 (gv (D.int (bE l t)) s0::gv (D.none) (bn P b (cN l x (bE l t)) pile notes)::[])) (dA s0 1 (by kernel_rfl) h1) (mJ s0 (h2)) (dL s0 1 a (by kernel_rfl) h3 h4) (gV n P b l pile notes t hd h12) (AA (n+1) P b l pile notes x (bE l t) hz)))
theorem OZ(notes:List D)(a:Nat)(tn ln:Int)(h1:small P.rows=true)(h2:decide (((aw P.rows:Nat):Int)≤(a:Int))=false)(h3:Nat.blt a 1000000=true)(w:PySem.Str)(hz:small notes=true)(h4:dj P.rows a=some (.tup [.int ln,.tup [.str (S "REM"),.str w]]))(k:Mine.Loc→Mine.St→aD):af (br (ec aP (ay aP (n+2)) 40 tg.ns) Ei (qZ (Int.ofNat a) tn) (bn P b l pile notes) k)=af (k [(S "self",D.ob 11),(S "at",D.int (Int.ofNat a+1)),(S "most",D.int (50)),(S "turn",D.int tn),(S "statement",D.tup [D.str (S "REM"),D.str w])] (bn P b l pile (notes++[D.tup [D.str w,D.int (valI l "X")]]))):=(let s0:St:=bn P b l pile notes;(Qa (s:=gv (D.int ↑(aw P.1)) s0::gv (.bool false) s0::gv (D.tup [D.int ln,D.tup [D.str (S "REM"),D.str w]]) s0::au 6 (gv (D.int (valI l "X")) s0::gv (D.none) (bn P b l pile (notes++[D.tup [D.str w,D.int (valI l "X")]]))::[])) (dA s0 1 (by kernel_rfl) h1) (mJ s0 (h2)) (dL s0 1 a (by kernel_rfl) h3 h4) (Ab (n+1) P b l pile notes "X") (FP P b l pile notes (D.tup [D.str w,D.int (valI l "X")]) hz)))
theorem O2(notes:List D)(a:Nat)(tn ln:Int)(h1:small P.rows=true)(h2:decide (((aw P.rows:Nat):Int)≤(a:Int))=false)(h3:Nat.blt a 1000000=true)(rest:List D)(h4:dj P.rows a=some (.tup [.int ln,.tup (.str (S "END")::rest)]))(k:Mine.Loc→Mine.St→aD):af (br (ec aP (ay aP n) 40 tg.ns) Ei (qZ (Int.ofNat a) tn) (bn P b l pile notes) k)=af (aD.val (D.int ↑(aw P.1)) (bn P b l pile notes)):=(let s0:St:=bn P b l pile notes;(OL (s:=gv (D.int ↑(aw P.1)) s0::gv (.bool false) s0::gv (D.tup [D.int ln,D.tup (D.str (S "END")::rest)]) s0::au 7 (gv (D.int ↑(aw P.1)) s0::[])) (dA s0 1 (by kernel_rfl) h1) (mJ s0 (h2)) (dL s0 1 a (by kernel_rfl) h3 h4) (dA s0 1 (by kernel_rfl) h1)))
theorem O0(notes:List D)(a:Nat)(tn:Int)(h1:small P.rows=true)(h2:decide (((aw P.rows:Nat):Int)≤(a:Int))=true)(k:Mine.Loc→Mine.St→aD):af (br (ec aP (ay aP n) 40 tg.ns) Ei (qZ (Int.ofNat a) tn) (bn P b l pile notes) k)=af (aD.val (D.int (Int.ofNat a)) (bn P b l pile notes)):=(let s0:St:=bn P b l pile notes;(rX (s:=gv (D.int ↑(aw P.1)) s0::gv (.bool true) s0::[]) (dA s0 1 (by kernel_rfl) h1) (mJ s0 (h2))))
end
section
open PySem.Spec
variable{P:Pg}
abbrev mQ(ds:List D):Prop:=cq (frz [] 11) ds=some ds
abbrev IZ(es:List (D×D)):Prop:=jY (frz [] 11) es=some es
structure zR(P:Pg):Prop where
 rows:mQ P.rows
 places:IZ P.places
 pairs:IZ P.pairs
 loops:IZ P.loops
theorem bu{a b:Nat}(h:Nat.ble a b=true):a≤b:=Nat.le_of_ble_eq_true h
theorem gG(p:zR P)(b:Bool)(l:List (D×Int)){old new notes:List D}(hn:mQ new)(ht:mQ notes):pN 15 (stK P b l old new notes) (bn P true l new notes):=by
 induction b using Bool.casesOn with
 |false=>exact⟨15,bu rfl,⟨⟨_,rfl,rfl,ht,bu rfl⟩,⟨_,rfl,rfl,rfl,bu rfl⟩,⟨_,rfl,rfl,rfl,bu rfl⟩,⟨_,rfl,rfl,ky _ _ _,bu rfl⟩,⟨_,rfl,rfl,p.rows,bu rfl⟩,⟨_,rfl,rfl,p.loops,bu rfl⟩,⟨_,rfl,rfl,p.pairs,bu rfl⟩,⟨_,rfl,rfl,p.places,bu rfl⟩,⟨_,rfl,rfl,rfl,bu rfl⟩,⟨_,rfl,rfl,hn,bu rfl⟩,ag⟩,bT 15,λ _=>aq 16⟩
 |true=>exact⟨16,bu rfl,⟨⟨_,rfl,rfl,ht,bu rfl⟩,⟨_,rfl,rfl,rfl,bu rfl⟩,⟨_,rfl,rfl,rfl,bu rfl⟩,⟨_,rfl,rfl,ky _ _ _,bu rfl⟩,⟨_,rfl,rfl,p.rows,bu rfl⟩,⟨_,rfl,rfl,p.loops,bu rfl⟩,⟨_,rfl,rfl,p.pairs,bu rfl⟩,⟨_,rfl,rfl,p.places,bu rfl⟩,⟨_,rfl,rfl,rfl,bu rfl⟩,⟨_,rfl,rfl,hn,bu rfl⟩,ag⟩,bT 15,λ _=>aq 16⟩
theorem cQ(p:zR P)(b:Bool)(l:List (D×Int)){pile notes:List D}(hn:mQ pile)(ht:mQ notes):pN 15 (bn P b l pile notes) (bn P b l pile notes):=by
 induction b using Bool.casesOn<;>exact⟨15,bu rfl,⟨⟨_,rfl,rfl,ht,bu rfl⟩,⟨_,rfl,rfl,rfl,bu rfl⟩,⟨_,rfl,rfl,rfl,bu rfl⟩,⟨_,rfl,rfl,ky _ _ _,bu rfl⟩,⟨_,rfl,rfl,p.rows,bu rfl⟩,⟨_,rfl,rfl,p.loops,bu rfl⟩,⟨_,rfl,rfl,p.pairs,bu rfl⟩,⟨_,rfl,rfl,p.places,bu rfl⟩,⟨_,rfl,rfl,rfl,bu rfl⟩,⟨_,rfl,rfl,hn,bu rfl⟩,ag⟩,bu rfl,λ h=>h⟩
end
section
open PySem.Spec
variable{α:Type}{P:Pg}{a x:Nat}{s:D}{t:cO}{z lim:Int}{gs:List Int}{w:Str}{rest:List D}
structure cL(P:Pg)(a:Nat)(s:D):Prop where
 lt:a<aw P.rows
 le:aw P.rows≤100
 row:∃ln,dj P.rows a=some (.tup [.int ln,s])
theorem cG{xs:List α}{n:Nat}(h:aw xs≤n)(hn:n≤1000000):small xs=true:=Nat.ble_eq.mpr (ad h hn)
theorem cT{xs:List α}(h:aw xs≤1000):small xs=true:=cG h (by decide)
theorem cL.sm(r:cL P a s):small P.rows=true:=cG r.le (by decide)
theorem cL.no(r:cL P a s):decide (((aw P.rows:Nat):Int)≤(a:Int))=false:=bB λ q=>Nat.not_le.mpr r.lt (Int.ofNat_le.mp q)
theorem cL.bl(r:cL P a s):Nat.blt a 1000000=true:=bp.mpr (ao r.lt (ad r.le (by decide)))
inductive NxV(n:Nat)(P:Pg)(a:Nat)(l:List (D×Int))(pile notes:List D)(a':Nat)(l':List (D×Int))(pile' notes':List D)(b:Bool)(tn:Int):Prop
 |mk (st2:St) (b':Bool) (s:D) (h:∀k,af (br (ec aP (ay aP (n+12)) 40 tg.ns) Ei (qZ (Int.ofNat a) tn) (bn P b l pile notes) k)=af (k [(S "self",.ob 11),(S "at",.int (Int.ofNat a')),(S "most",.int 50),(S "turn",.int tn),(S "statement",s)] st2)) (hn:pN 15 st2 (bn P b' l' pile' notes'))
noncomputable def NX(n:Nat)(P:Pg)(a:Nat)(l:List (D×Int))(pile notes:List D)(a':Nat)(l':List (D×Int))(pile' notes':List D):Prop:=∀(b:Bool) (tn:Int),NxV n P a l pile notes a' l' pile' notes' b tn
inductive Lw(n:Nat)(P:Pg)(l:List (D×Int))(pile notes:List D)(fa:Addr)(a:Nat)(s:D)(a':Nat)(l':List (D×Int))(pile' notes':List D)(b:Bool):Prop
 |mk (st2:St) (b':Bool) (h:ay aP n fa [.ob 11,.int (Int.ofNat a),s] (bn P b l pile notes)=some (.int (Int.ofNat a'),st2)) (hn:pN 15 st2 (bn P b' l' pile' notes'))
noncomputable def Pq:List D:=[.str (S "IFNOT"),.str (S "JUMP"),.str (S "GOTO"),.str (S "GOSUB"),.str (S "ONGO"),.str (S "RETURN")]
structure lY(w:Str)(j:Bool):Prop where
 e1:gw (.str w) (.str (S "LET"))=some false
 e2:gw (.str w) (.str (S "REM"))=some false
 e3:gw (.str w) (.str (S "END"))=some false
 hj:mu (.str w) Pq=some j
section
variable{n:Nat}{P:Pg}{a a':Nat}{l l':List (D×Int)}{pile pile' notes notes':List D}
theorem kW(h:t.dep≤3)(k:Nat):t.dep≤k+3:=ad h (cC 3 k)
theorem gy(h:t.dep≤3):t.dep<12:=aA h (by decide)
theorem BD(h:x≤12):decide ((20:Int)≤(x:Int))=false:=bB λ q=>absurd (Int.ofNat_le (m:=20).mp q) (Nat.not_le.mpr (aA h (by decide)))
theorem Gh(l:List (D×Int)):aw (dI l)=aw l:=(bf _).trans ((aG ..).trans (bf _).symm)
theorem ki(h:aw l≤1000):small (dI l)=true:=cT (Gh l▸h)
theorem Pc(h:z≠0):d5 z 0=false:=(dm ..).trans (bB h)
theorem PS(h:z=0):d5 z 0=true:=(dm ..).trans (bI h)
theorem cD(gs:List Int):mQ (aU gs):=CT 10 [] gs
theorem dU{e:D}{xs:List D}(he:frz [] 11 e=some e)(h:mQ xs):mQ (xs++[e]):=p6 he h
theorem nW(h:gs.length≤12):aw (aU gs)≤12:=w9 gs▸h
theorem vq(h:x≤12):x+1≤1000:=ad (bK h) (by decide)
theorem wR{j:Bool}(W:lY w j)(r:cL P a (.tup (.str w::rest)))(R:∀b,Lw (n+12) P l pile notes 559 a (.tup (.str w::rest)) a' l' pile' notes' b):NX n P a l pile notes a' l' pile' notes':=λ b tn=>
 let⟨st2,b',h,hn⟩:=R b
 let⟨ln,hr⟩:=r.row
 ⟨st2,b',_,λ k=>Mk (n+12) P b l pile notes a tn ln r.sm r.no r.bl _ st2 w rest W.e1 W.e2 W.e3 hr h k,hn⟩
theorem pm(W:lY w true)(r:cL P a (.tup (.str w::rest)))(R:∀b,Lw (n+11) P l pile notes 566 a (.tup (.str w::rest)) a' l' pile' notes' b):NX n P a l pile notes a' l' pile' notes':=
 wR W r λ b=>let⟨st2,b',h,hn⟩:=R b;⟨st2,b',fJ (n+11) P b l pile notes a _ st2 w rest W.hj h,hn⟩
theorem yg(W:lY w false)(r:cL P a (.tup (.str w::rest)))(R:∀b,Lw (n+11) P l pile notes 573 a (.tup (.str w::rest)) a' l' pile' notes' b):NX n P a l pile notes a' l' pile' notes':=
 wR W r λ b=>let⟨st2,b',h,hn⟩:=R b;⟨st2,b',fL (n+11) P b l pile notes a _ st2 w rest W.hj h,hn⟩
theorem L9:lY (S "GOTO") true:=⟨by kernel_rfl,by kernel_rfl,by kernel_rfl,by kernel_rfl⟩
theorem L8:lY (S "JUMP") true:=⟨by kernel_rfl,by kernel_rfl,by kernel_rfl,by kernel_rfl⟩
theorem Aa:lY (S "IFNOT") true:=⟨by kernel_rfl,by kernel_rfl,by kernel_rfl,by kernel_rfl⟩
theorem I8:lY (S "GOSUB") true:=⟨by kernel_rfl,by kernel_rfl,by kernel_rfl,by kernel_rfl⟩
theorem wu:lY (S "ONGO") true:=⟨by kernel_rfl,by kernel_rfl,by kernel_rfl,by kernel_rfl⟩
theorem Eu:lY (S "RETURN") true:=⟨by kernel_rfl,by kernel_rfl,by kernel_rfl,by kernel_rfl⟩
theorem OS:lY (S "FOR") false:=⟨by kernel_rfl,by kernel_rfl,by kernel_rfl,by kernel_rfl⟩
theorem HX:lY (S "NEXT") false:=⟨by kernel_rfl,by kernel_rfl,by kernel_rfl,by kernel_rfl⟩
theorem z9:lY (S "WHILE") false:=⟨by kernel_rfl,by kernel_rfl,by kernel_rfl,by kernel_rfl⟩
theorem L7:lY (S "WEND") false:=⟨by kernel_rfl,by kernel_rfl,by kernel_rfl,by kernel_rfl⟩
variable(ok:zR P)(ht:mQ notes)
include ok ht
theorem uV(hp:mQ pile){x:String}{t:cO}(h12:t.dep<10)(hz:aw l≤1000)(r:cL P a (.tup [.str (S "LET"),.tup [.str (S "name"),.str (S x)],t.toD])):NX n P a l pile notes (a+1) (cN l x (bE l t)) pile notes:=λ b tn=>
 let⟨ln,hr⟩:=r.row
 ⟨_,b,_,λ k=>O1 (n+10) P b l pile notes a tn ln r.sm r.no r.bl x t (ad (bJ h12) (cC 10 n)) (ao h12 (by decide)) (ki hz) hr k,cQ ok b _ hp ht⟩
theorem JB(hp:mQ pile){w:Str}(hz:aw notes≤1000)(r:cL P a (.tup [.str (S "REM"),.str w])):NX n P a l pile notes (a+1) l pile (notes++[.tup [.str w,.int (valI l "X")]]):=λ b tn=>
 let⟨ln,hr⟩:=r.row
 ⟨_,b,_,λ k=>OZ (n+10) P b l pile notes a tn ln r.sm r.no r.bl w (cT hz) hr k,cQ ok b _ hp (dU rfl ht)⟩
theorem Fz(hp:mQ pile){g:Int}(h1:aR P.places (.inl g)=some (.int (Int.ofNat a')))(r:cL P a (.tup [.str (S "GOTO"),.int g])):NX n P a l pile notes a' l pile notes:=
 pm L9 r λ b=>⟨_,b,Ni (n+5) P b l pile notes a g _ h1,cQ ok b _ hp ht⟩
theorem Fy(hp:mQ pile)(r:cL P a (.tup [.str (S "JUMP"),.int (Int.ofNat a')])):NX n P a l pile notes a' l pile notes:=
 pm L8 r λ b=>⟨_,b,Nh (n+5) P b l pile notes a _,cQ ok b _ hp ht⟩
theorem JC(hp:mQ pile){t:cO}{g:Int}(h12:t.dep≤3)(hb:bE l t≠0)(r:cL P a (.tup [.str (S "IFNOT"),t.toD,.int g])):NX n P a l pile notes (a+1) l pile notes:=
 pm Aa r λ b=>⟨_,b,Pu (n+5) P b l pile notes a g t (kW h12 _) (gy h12) (Pc hb),cQ ok b _ hp ht⟩
theorem JD(hp:mQ pile){t:cO}(h12:t.dep≤3)(hb:bE l t=0)(r:cL P a (.tup [.str (S "IFNOT"),t.toD,.int (Int.ofNat a')])):NX n P a l pile notes a' l pile notes:=
 pm Aa r λ b=>⟨_,b,Pv (n+5) P b l pile notes a _ t (kW h12 _) (gy h12) (PS hb),cQ ok b _ hp ht⟩
theorem Bs(hp:mQ pile){g:Int}(hl:aw pile≤12)(h1:aR P.places (.inl g)=some (.int (Int.ofNat a')))(r:cL P a (.tup [.str (S "GOSUB"),.int g])):NX n P a l pile notes a' l (pile++[.tup [.str (S "GOSUB"),.int (Int.ofNat (a+1))]]) notes:=
 pm I8 r λ b=>⟨_,b,Kq (n+5) P b l pile notes a g _ h1 (cG hl (by decide)) (BD hl),cQ ok b _ (dU rfl hp) ht⟩
theorem Bp(hp:mQ pile){t:cO}{g0 g1:Int}(h12:t.dep≤3)(hv:bE l t=0∨bE l t=3)(r:cL P a (.tup [.str (S "ONGO"),.str (S "GOTO"),t.toD,.lst [.int g0,.int g1]])):NX n P a l pile notes (a+1) l pile notes:=
 pm wu r λ b=>hv.elim (λ hv=>⟨_,b,Cf (n+5) P b l pile notes a g0 g1 t (kW h12 (n+4)) (gy h12) hv (by decide),cQ ok b _ hp ht⟩)
  λ hv=>⟨_,b,Cc (n+5) P b l pile notes a g0 g1 t (kW h12 (n+4)) (gy h12) hv (by decide),cQ ok b _ hp ht⟩
theorem Bo(hp:mQ pile){t:cO}{g0 g1:Int}(h12:t.dep≤3)(hv:bE l t=1∧aR P.places (.inl g0)=some (.int (Int.ofNat a'))∨bE l t=2∧aR P.places (.inl g1)=some (.int (Int.ofNat a')))(r:cL P a (.tup [.str (S "ONGO"),.str (S "GOTO"),t.toD,.lst [.int g0,.int g1]])):NX n P a l pile notes a' l pile notes:=
 pm wu r λ b=>hv.elim (λ hv=>⟨_,b,Ce (n+5) P b l pile notes a g0 g1 t (kW h12 (n+4)) (gy h12) hv.1 (by decide) _ hv.2,cQ ok b _ hp ht⟩)
  λ hv=>⟨_,b,Cd (n+5) P b l pile notes a g0 g1 t (kW h12 (n+4)) (gy h12) hv.1 (by decide) _ hv.2,cQ ok b _ hp ht⟩
theorem Bn(hp:mQ pile){t:cO}{g0 g1:Int}(h12:t.dep≤3)(hv:bE l t=0∨bE l t=3)(r:cL P a (.tup [.str (S "ONGO"),.str (S "GOSUB"),t.toD,.lst [.int g0,.int g1]])):NX n P a l pile notes (a+1) l pile notes:=
 pm wu r λ b=>hv.elim (λ hv=>⟨_,b,yT (n+5) P b l pile notes a g0 g1 t (kW h12 (n+4)) (gy h12) hv (by decide),cQ ok b _ hp ht⟩)
  λ hv=>⟨_,b,yQ (n+5) P b l pile notes a g0 g1 t (kW h12 (n+4)) (gy h12) hv (by decide),cQ ok b _ hp ht⟩
theorem Bm(hp:mQ pile)(hl:aw pile≤12){t:cO}{g0 g1:Int}(h12:t.dep≤3)(hv:bE l t=1∧aR P.places (.inl g0)=some (.int (Int.ofNat a'))∨bE l t=2∧aR P.places (.inl g1)=some (.int (Int.ofNat a')))(r:cL P a (.tup [.str (S "ONGO"),.str (S "GOSUB"),t.toD,.lst [.int g0,.int g1]])):NX n P a l pile notes a' l (pile++[.tup [.str (S "GOSUB"),.int (Int.ofNat (a+1))]]) notes:=
 pm wu r λ b=>hv.elim (λ hv=>⟨_,b,yS (n+5) P b l pile notes a g0 g1 t (kW h12 (n+4)) (gy h12) hv.1 (by decide) _ hv.2 (cG hl (by decide)) (BD hl),cQ ok b _ (dU rfl hp) ht⟩)
  λ hv=>⟨_,b,yR (n+5) P b l pile notes a g0 g1 t (kW h12 (n+4)) (gy h12) hv.1 (by decide) _ hv.2 (cG hl (by decide)) (BD hl),cQ ok b _ (dU rfl hp) ht⟩
theorem JA(hg:gs.length≤12)(r:cL P a (.tup [.str (S "RETURN"),.none])):NX n P a l (aU (gs++[Int.ofNat a'])) notes a' l (aU gs) notes:=
 pm Eu r λ b=>⟨_,true,Ps (n+5) P b l notes a _ gs hg,gG ok b l (cD gs) ht⟩
theorem JE(hg:gs.length≤12)(hz:aw l≤1000)(hlim:lim=0∨lim=1∨lim=2)(r:cL P a (.tup [.str (S "FOR"),.str (S "C"),.tup [.str (S "whole"),.int 0],.tup [.str (S "whole"),.int lim],.none])):
  NX n P a l (aU gs) notes (a+1) (cN l "C" 0) (aU gs++[bR (Int.ofNat (a+1)) lim]) notes:=
 yg OS r λ b=>⟨_,b,Pp n P b l notes a lim gs hg (cG (nW hg) (by decide)) (BD (nW hg)) (ki hz) ((iF ..).trans (aZ rfl)) (by rcases hlim with rfl|rfl|rfl<;>kernel_rfl),cQ ok b _ (dU rfl (cD gs)) ht⟩
theorem Bq{pl:Int}(hg:gs.length≤12)(hz:aw l≤1000)(hlim:lim=0∨lim=1∨lim=2)(hv:valI l "C"=lim)(r:cL P a (.tup [.str (S "NEXT"),.lst [.str (S "C")]])):
  NX n P a l (aU gs++[bR pl lim]) notes (a+1) (cN l "C" (lim+1)) (aU gs) notes:=
 yg HX r λ b=>⟨_,true,Ko n P b l notes pl lim a gs hg (tj hg _) lim (lim+1) (by rcases hlim with rfl|rfl|rfl<;>kernel_rfl) (by rcases hlim with rfl|rfl|rfl<;>kernel_rfl) hv (ki hz),gG ok b _ (cD gs) ht⟩
theorem Br{v:Int}(hg:gs.length≤12)(hz:aw l≤1000)(hlim:v=0∧lim=1∨v=0∧lim=2∨v=1∧lim=2)(hv:valI l "C"=v)(r:cL P a (.tup [.str (S "NEXT"),.lst [.str (S "C")]])):
  NX n P a l (aU gs++[bR (Int.ofNat a') lim]) notes a' (cN l "C" (v+1)) (aU gs++[bR (Int.ofNat a') lim]) notes:=
 yg HX r λ b=>⟨_,true,Kp n P b l notes _ lim a gs hg (tj hg _) v (v+1) (by rcases hlim with⟨rfl,rfl⟩|⟨rfl,rfl⟩|⟨rfl,rfl⟩<;>kernel_rfl) (by rcases hlim with⟨rfl,rfl⟩|⟨rfl,rfl⟩|⟨rfl,rfl⟩<;>kernel_rfl) hv (ki hz),gG ok b _ (dU rfl (cD gs)) ht⟩
theorem MO(hg:gs.length≤12)(h12:t.dep≤3)(hb:bE l t≠0)(hp:pile=aU gs∨pile=aU gs++[bO (Int.ofNat a)])(r:cL P a (.tup [.str (S "WHILE"),t.toD])):
  NX n P a l pile notes (a+1) l (aU gs++[bO (Int.ofNat a)]) notes:=
 yg z9 r λ b=>by
  rcases hp with rfl|rfl
  ·exact⟨_,b,Pm n P b l notes a gs hg (cG (nW hg) (by decide)) (vq (nW hg)) (bQ (vq (nW hg))) (BD (nW hg)) t (kW h12 (n+5)) (gy h12) (Pc hb),cQ ok b _ (dU rfl (cD gs)) ht⟩
  ·exact⟨_,true,Pl n P b l notes a gs hg (tj hg _) t (kW h12 (n+5)) (gy h12) (Pc hb),gG ok b _ (dU rfl (cD gs)) ht⟩
theorem MP(hg:gs.length≤12)(h12:t.dep≤3)(hb:bE l t=0)(hp:pile=aU gs∨pile=aU gs++[bO (Int.ofNat a)])(h1:aR P.pairs (.inl (Int.ofNat a))=some (.int (Int.ofNat a')))(r:cL P a (.tup [.str (S "WHILE"),t.toD])):
  NX n P a l pile notes (a'+1) l (aU gs) notes:=
 yg z9 r λ b=>by
  rcases hp with rfl|rfl
  ·exact⟨_,b,Po n P b l notes a gs hg (cG (nW hg) (by decide)) (bQ (vq (nW hg))) t (kW h12 (n+5)) (gy h12) (PS hb) _ h1,cQ ok b _ (cD gs) ht⟩
  ·exact⟨_,true,Pn n P b l notes a gs hg (tj hg _) t (kW h12 (n+5)) (gy h12) (PS hb) _ h1,gG ok b _ (cD gs) ht⟩
theorem Fw(hg:gs.length≤12)(h1:aR P.pairs (.inl (Int.ofNat a))=some (.int (Int.ofNat a')))(r:cL P a (.tup [.str (S "WEND")])):
  NX n P a l (aU gs++[bO (Int.ofNat a')]) notes a' l (aU gs++[bO (Int.ofNat a')]) notes:=
 yg L7 r λ b=>⟨_,true,Nd n P b l notes a _ gs hg (tj hg _) h1,gG ok b _ (dU rfl (cD gs)) ht⟩
end
end
section
open PySem.Spec
theorem qG(n:Nat)(P:Pg)(b:Bool)(l:List (D×Int))(notes:List D):Rz aP (n+10) 544 [.ob 12] (bn P b l [] notes) (bn P b l [] notes):=by
 refine⟨bj 87,by kernel_rfl,by kernel_rfl,?_⟩
 cases b
 ·refine iD.asn (d:= .int 0) (st1:=bn P false l [] notes) (by kernel_rfl) (by kernel_rfl) (by kernel_rfl) ?_
  refine iD.ifc (x:=true) (st1:=bn P false l [] notes) (by kernel_rfl) ?_
  exact iD.raise (by kernel_rfl)
 ·refine iD.asn (d:= .int 0) (st1:=bn P true l [] notes) (by kernel_rfl) (by kernel_rfl) (by kernel_rfl) ?_
  refine iD.ifc (x:=true) (st1:=bn P true l [] notes) (by kernel_rfl) ?_
  exact iD.raise (by kernel_rfl)
theorem EZ(n:Nat)(P:Pg)(b:Bool)(l:List (D×Int))(notes:List D)(a:Nat):Rz aP (n+11) 566 [.ob 11,.int (Int.ofNat a),.tup [.str (S "RETURN"),.none]] (bn P b l [] notes) (bn P b l [] notes):=by
 refine⟨bj 92,by kernel_rfl,by kernel_rfl,?_⟩
 refine iD.asn (d:= .str (S "RETURN")) (st1:=bn P b l [] notes) (by kernel_rfl) (by kernel_rfl) (by kernel_rfl) ?_
 refine iD.ifn (st1:=bn P b l [] notes) (by kernel_rfl) ?_
 refine iD.ifn (st1:=bn P b l [] notes) (by kernel_rfl) ?_
 refine iD.ifc (x:=true) (st1:=bn P b l [] notes) (by kernel_rfl) ?_
 exact iD.asnX (by kernel_rfl) (D1.call (fa:=544) (ds:=[.ob 12]) (st1:=bn P b l [] notes) (by kernel_rfl) (by kernel_rfl) (by kernel_rfl) (by kernel_rfl) (qG n P b l notes))
theorem E0(n:Nat)(P:Pg)(b:Bool)(l:List (D×Int))(notes:List D)(a:Nat):Rz aP (n+12) 559 [.ob 11,.int (Int.ofNat a),.tup [.str (S "RETURN"),.none]] (bn P b l [] notes) (bn P b l [] notes):=by
 refine⟨bj 91,by kernel_rfl,by kernel_rfl,?_⟩
 exact iD.ret (D1.ifexp (x:=true) (st1:=bn P b l [] notes) (by kernel_rfl) (D1.call (fa:=566) (ds:=[.ob 11,.int (Int.ofNat a),.tup [.str (S "RETURN"),.none]]) (st1:=bn P b l [] notes) (by kernel_rfl) (by kernel_rfl) (by kernel_rfl) (by kernel_rfl) (EZ n P b l notes a)))
theorem EY{n:Nat}{P:Pg}{b:Bool}{l:List (D×Int)}{notes:List D}{a:Nat}(tn:Int)(r:cL P a (.tup [.str (S "RETURN"),.none])):iD aP (ay aP (n+12)) (Rz aP (n+12)) tg.ns Ei (qZ (Int.ofNat a) tn) (bn P b l [] notes) (bn P b l [] notes):=by
 obtain⟨ln,hr⟩:=r.row
 refine iD.ifn (st1:=bn P b l [] notes) (oV (s:=gv (.int (aw P.rows:Nat)) (bn P b l [] notes)::gv (.bool false) (bn P b l [] notes)::[]) (dA (bn P b l [] notes) 1 rfl r.sm) (mJ (bn P b l [] notes) r.no)) ?_
 refine iD.asn (d:= .tup [.str (S "RETURN"),.none]) (st1:=bn P b l [] notes) (by kernel_rfl) (by kernel_rfl) (rK (s:=gv (.tup [.int ln,.tup [.str (S "RETURN"),.none]]) (bn P b l [] notes)::au 1 []) (dL (bn P b l [] notes) 1 a rfl r.bl hr)) ?_
 refine iD.ifc (x:=false) (st1:=bn P b l [] notes) (by kernel_rfl) ?_
 refine iD.ifc (x:=false) (st1:=bn P b l [] notes) (by kernel_rfl) ?_
 refine iD.ifc (x:=false) (st1:=bn P b l [] notes) (by kernel_rfl) ?_
 exact iD.asnX (by kernel_rfl) (D1.call (fa:=559) (ds:=[.ob 11,.int (Int.ofNat a),.tup [.str (S "RETURN"),.none]]) (st1:=bn P b l [] notes) (by kernel_rfl) (by kernel_rfl) (by kernel_rfl) (by kernel_rfl) (E0 n P b l notes a))
end
section
open PySem.Spec
variable{c:Nat}{v:Int}{y:String}
variable(p:Lp)(b:Nat)(l:List (D×Int))
structure Lp where
 ln:Int
 w:Str
 nm:String
 src:String
 kind:Nat
 one:Int
 g0:Int
 g1:Int
 tt:Int
 o3:Int
noncomputable def yi:Nat→Nat
 |0=>3
 |1=>4
 |2=>7
 |3=>4
 |4=>4
 |5=>4
 |6=>5
 |7=>5
 |8=>4
 |_=>6
noncomputable def Lp.nr(p:Lp):Nat:=yi p.kind
noncomputable def jX:cO:= .am (.am (.nm "A") (.nm "B")) (.nm "C")
noncomputable def Lp.addT(p:Lp):cO:= .pl (.nm p.src) (.wh p.one)
noncomputable def Lp.incT(p:Lp):cO:= .pl (.nm p.src) (.wh 1)
noncomputable def Lp.testT(p:Lp):cO:= .lt (.nm p.src) (.wh p.tt)
noncomputable def jx(x:String)(t:cO):D:= .tup [.str (S "LET"),.tup [.str (S "name"),.str (S x)],t.toD]
noncomputable def kO(g:Int):D:= .tup [.str (S "GOTO"),.int g]
noncomputable def Lp.tailK:Nat→List D
 |0=>[]
 |1=>[kO p.g0]
 |2=>[.tup [.str (S "IFNOT"),p.testT.toD,.int (Int.ofNat (b+6))],kO p.g0,.tup [.str (S "JUMP"),.int (Int.ofNat (b+7))],kO p.g1]
 |3=>[.tup [.str (S "ONGO"),.str (S "GOTO"),(cO.nm p.src).toD,.lst [.int p.g0,.int p.g1]]]
 |4=>[.tup [.str (S "GOSUB"),.int p.g0]]
 |5=>[.tup [.str (S "ONGO"),.str (S "GOSUB"),(cO.nm p.src).toD,.lst [.int p.g0,.int p.g1]]]
 |6=>[.tup [.str (S "IFNOT"),p.testT.toD,.int (Int.ofNat (b+5))],.tup [.str (S "RETURN"),.none]]
 |7=>[.tup [.str (S "FOR"),.str (S "C"),.tup [.str (S "whole"),.int 0],.tup [.str (S "whole"),.int p.o3],.none],.tup [.str (S "NEXT"),.lst [.str (S "C")]]]
 |8=>[.tup [.str (S "END")]]
 |_=>[.tup [.str (S "WHILE"),p.testT.toD],jx p.src p.incT,.tup [.str (S "WEND")]]
noncomputable def Lp.tailD(p:Lp)(b:Nat):List D:=p.tailK b p.kind
noncomputable def Lp.stD(p:Lp)(b:Nat):List D:=jx "X" jX::.tup [.str (S "REM"),.str p.w]::jx p.nm p.addT::p.tailD b
theorem c6{p:Lp}{b:Nat}(h:p.kind=c)(j:Nat):(p.stD b)[j+3]?=(p.tailK b c)[j]?:=ae (λ c=>(p.tailK b c)[j]?) h
theorem jJ{p:Lp}(h:p.kind=c):p.nr=yi c:=ae yi h
noncomputable def bq:List Lp→Nat→Nat
 |_,0=>0
 |[],_=>0
 |p::r,i+1=>p.nr+bq r i
theorem wb{L:List Lp}:∀{i:Nat} {p:Lp},L[i]?=some p→bq L (i+1)=bq L i+p.nr:=by
 induction L with
 |nil=>exact λ h=>nsK h
 |cons q r ih=>
  intro i p h
  induction i using Nat.casesOn with
  |zero=>
   obtain rfl:=an h
   show q.nr+bq r 0=0+q.nr
   induction r using List.casesOn<;>exact(bC _).symm
  |succ i=>exact(ae (q.nr+·) (ih (i:=i) h)).trans (cI ..).symm
noncomputable def lX(x:String):Prop:=x= "A"∨x= "B"∨x= "C"
noncomputable def Lp.goal(p:Lp)(g:Int):Prop:=((p.kind=1∨p.kind=4)∧g=p.g0)∨((p.kind=2∨p.kind=3∨p.kind=5)∧(g=p.g0∨g=p.g1))
noncomputable def Lp.sets(p:Lp)(x:String):Prop:=x=p.nm∨(p.kind=7∧x= "C")∨(p.kind=9∧x=p.src)
inductive t6(L:List Lp)(g:Int):Prop
 |mk (i:Nat) (q:Lp) (h:L[i]?=some q) (e:q.ln=g)
structure HN(L:List Lp)(p:Lp):Prop where
 kind:p.kind≤9
 nm:lX p.nm
 src:lX p.src
 o3:p.o3=0∨p.o3=1∨p.o3=2
 g0:t6 L p.g0
 g1:t6 L p.g1
structure Wd(L:List Lp)(P:Pg):Prop where
 ok:zR P
 rows:∀(i:Nat) (p:Lp),L[i]?=some p→∀j s,(p.stD (bq L i))[j]?=some s→cL P (bq L i+j) s
 total:aw P.rows=bq L L.length
 le:bq L L.length≤100
 places:∀(i:Nat) (p:Lp),L[i]?=some p→aR P.places (.inl p.ln)=some (.int (Int.ofNat (bq L i)))
 pairs:∀(i:Nat) (p:Lp),L[i]?=some p→p.kind=9→aR P.pairs (.inl (Int.ofNat (bq L i+3)))=some (.int (Int.ofNat (bq L i+5)))∧aR P.pairs (.inl (Int.ofNat (bq L i+5)))=some (.int (Int.ofNat (bq L i+3)))
 lps:∀(i:Nat) (p:Lp),L[i]?=some p→HN L p
inductive N9(L:List Lp)(i i':Nat):Prop
 |next (e:i'=i+1)
 |goal (p q:Lp) (hp:L[i]?=some p) (hq:L[i']?=some q) (g:p.goal q.ln)
 |back (p:Lp) (i0:Nat) (q:Lp) (hp:L[i]?=some p) (h6:p.kind=6) (hq:L[i0]?=some q) (h45:q.kind=4∨q.kind=5) (e:i'=i0+1)
abbrev Hn:=Nat×Int×Int×Int
noncomputable def sx(h:Hn)(x:String):Int:=if x= "A"then h.2.1 else if x= "B"then h.2.2.1 else h.2.2.2
noncomputable def ux(i:Nat)(l:List (D×Int)):Hn:=(i,valI l "A",valI l "B",valI l "C")
theorem jh{i:Nat}{l:List (D×Int)}{x:String}(h:lX x):sx (ux i l) x=valI l x:=by
 rcases h with rfl|rfl|rfl<;>rfl
structure OO(L:List Lp)(h:Hn):Prop where
 lt:h.1<L.length
 dig:∀x,lX x→0≤sx h x∧sx h x≤3
 zero:∀x,lX x→(∀p∈L,¬p.sets x)→sx h x=0
structure Oi(L:List Lp)(h h':Hn):Prop where
 stp:N9 L h.1 h'.1
 same:∀x,lX x→∀(p:Lp),L[h.1]?=some p→¬p.sets x→sx h' x=sx h x
inductive eG(L:List Lp):List Hn→Prop
 |nil:eG L []
 |one {h:Hn}:OO L h→h.1=0→eG L [h]
 |snoc {H:List Hn} {h h':Hn}:eG L (H++[h])→Oi L h h'→OO L h'→eG L (H++[h]++[h'])
noncomputable def nz(L:List Lp)(i:Nat):Str:=(L[i]?).elim (S "") Lp.w
noncomputable def Bx(L:List Lp)(h:Hn):D:= .tup [.str (nz L h.1),.int (100*h.2.1+10*h.2.2.1+h.2.2.2)]
noncomputable def cF(L:List Lp)(H:List Hn):List D:=H.map (Bx L)
inductive D7(L:List Lp)(H:List Hn)(l:List (D×Int))(C:Nat→Prop):Prop
 |mk (H':List Hn) (h:Hn) (e:H=H'++[h]) (c:C h.1) (k:∀x,lX x→∀(p:Lp),L[h.1]?=some p→¬p.sets x→valI l x=sx h x)
inductive IX(L:List Lp)(H:List Hn)(i:Nat)(l:List (D×Int)):Prop
 |first (h:H=[]) (e:i=0)
 |left (h:D7 L H l λ j=>N9 L j i)
abbrev Oy(L:List Lp)(H:List Hn)(i:Nat)(l:List (D×Int)):Prop:=D7 L H l λ j=>j=i
noncomputable def uo(p:Lp)(b j:Nat)(l:List (D×Int))(top:List D)(kd:Nat):Prop:=
 cond (Nat.beq kd 7) (cond (Nat.beq j 4) (top=[bR (Int.ofNat (b+4)) p.o3]∧valI l "C"≤p.o3) (top=[]))
  (cond (Nat.beq kd 9) (cond (Nat.beq j 3) (top=[]∨top=[bO (Int.ofNat (b+3))]) (cond (Nat.ble 4 j) (top=[bO (Int.ofNat (b+3))]) (top=[]))) (top=[]))
noncomputable def xx(p:Lp)(b j:Nat)(l:List (D×Int))(top:List D):Prop:=uo p b j l top p.kind
theorem gb{p:Lp}{b j:Nat}{l:List (D×Int)}{top:List D}(h:p.kind=c):xx p b j l top=uo p b j l top c:=ae (uo p b j l top) h
structure Dy(L:List Lp)(k:Nat)(l:List (D×Int))(gs:List Int)(H:List Hn):Prop where
 vals:∀x,lX x→0≤valI l x∧valI l x≤3
 zero:∀x,lX x→(∀p∈L,¬p.sets x)→valI l x=0
 gsok:∀g∈gs,∃(i0:Nat) (q:Lp),L[i0]?=some q∧(q.kind=4∨q.kind=5)∧g=Int.ofNat (bq L (i0+1))
 good:eG L H
 ll:aw l≤k
 lh:H.length≤k
structure df(L:List Lp)(k i j:Nat)(p:Lp)(l:List (D×Int))(gs:List Int)(top:List D)(H:List Hn):Prop extends Dy L k l gs H where
 hp:L[i]?=some p
 hj:j<p.nr
 cnt:4*gs.length+min j 3≤k
 top:xx p (bq L i) j l top
 fresh:j≤1→IX L H i l
 xval:j=1→valI l "X"=100*valI l "A"+10*valI l "B"+valI l "C"
 cur:2≤j→Oy L H i l
 h0:H=[]→i=0∧j=k
inductive jA(L:List Lp)(k a:Nat)(l:List (D×Int))(pile:List D)(H:List Hn):Prop
 |row (i j:Nat) (p:Lp) (gs:List Int) (top:List D) (ha:a=bq L i+j) (hp:pile=aU gs++top) (I:df L k i j p l gs top H)
 |off (ha:a=bq L L.length) (ne:H≠[]) (good:eG L H) (lh:H.length≤k) (hp:mQ pile)
theorem y8{L:List Lp}{k:Nat}{gs:List Int}{H:List Hn}{i:Nat}{l:List (D×Int)}(d:Dy L k l gs H)(f:IX L H i l)(hi:i<L.length):eG L (H++[ux i l]):=by
 have ok:OO L (ux i l):=⟨hi,λ x hx=>jh hx▸d.vals x hx,λ x hx h=>(jh hx).trans (d.zero x hx h)⟩
 induction f with
 |first h e=>subst h;exact .one ok e
 |left h=>
  obtain⟨H',h,rfl,hs,hk⟩:=h
  exact .snoc d.good ⟨hs,λ x hx p hp hn=>(jh hx).trans (hk x hx p hp hn)⟩ ok
theorem yG(x:String)(v:Int):aw (cN l x v)≤aw l+1:=by
 induction l with
 |nil=>exact aq _
 |cons p r ih=>
  show aw (cond _ _ _)≤aw r+1+1
  induction di p.1 (.inr (S x))using Bool.casesOn with
  |true=>exact bT _
  |false=>exact bK ih
theorem Qb{x:String}(h:lX x):S "X"≠S x:=by rcases h with rfl|rfl|rfl<;>decide+kernel
theorem Oa{x:String}(h:lX x)(h':lX y)(e:S x=S y):x=y:=by
 rcases h with rfl|rfl|rfl<;>rcases h' with rfl|rfl|rfl<;>first|rfl|exact absurd e (by decide+kernel)
theorem qB{l:List (D×Int)}{x:String}(h:lX x)(h':lX y):valI (cN l x v) y=if x=y then v else valI l y:=(iF ..).trans (ite_congr (propext ⟨Oa h h',ae S⟩) (λ _=>rfl) λ _=>rfl)
theorem gD{l:List (D×Int)}(h':lX y):valI (cN l "X" v) y=valI l y:=(iF ..).trans (aI (Qb h'))
end
section
open PySem.Spec
variable{C:Nat→Prop}
theorem K3{a b:Bool}{P:Prop}(h:P):cond a P (cond b P P):=by
 induction a using Bool.casesOn with
 |true=>exact h
 |false=>induction b using Bool.casesOn<;>exact h
theorem Dt{a b:Bool}{P:Prop}(h:cond a P (cond b P P)):P:=by
 induction a using Bool.casesOn with
 |true=>exact h
 |false=>induction b using Bool.casesOn<;>exact h
theorem lF:∀n,3≤yi n∧yi n≤7
 |0=>by decide
 |1=>by decide
 |2=>by decide
 |3=>by decide
 |4=>by decide
 |5=>by decide
 |6=>by decide
 |7=>by decide
 |8=>by decide
 |n+9=>(by decide:3≤6∧6≤7)
theorem bS(L:List Lp)(H:List Hn):mQ (cF L H):=by
 induction H with
 |nil=>exact rfl
 |cons h H ih=>exact bU (vM 10 [] _ _) ih
theorem uW(L:List Lp)(H:List Hn):aw (cF L H)=H.length:=(bf _).trans (aG ..)
theorem MX(z:Int):0≤z.fmod 4∧z.fmod 4≤3:=⟨Int.fmod_nonneg_of_pos z (by decide),Int.le_of_lt_add_one (Int.fmod_lt_of_pos z (by decide))⟩
section
variable{L:List Lp}{P:Pg}{k i i' j:Nat}{p:Lp}{l:List (D×Int)}{gs:List Int}{top pile:List D}{H:List Hn}{n:Nat}
theorem ge(h:L[i]?=some p):p∈L:=List.mem_of_getElem? h
theorem d8(h:L[i]?=some p):i<L.length:=(cy.mp h).1
theorem df.dy(I:df L k i j p l gs top H):Dy L (k+1) l gs H:=⟨I.vals,I.zero,I.gsok,I.good,Nat.le_succ_of_le I.ll,Nat.le_succ_of_le I.lh⟩
theorem df.cnt0(I:df L k i j p l gs top H):4*gs.length≤k+1:=Nat.le_succ_of_le (ad (aB _ _) I.cnt)
theorem df.cnt3(I:df L k i j p l gs top H)(h:3≤j):4*gs.length+3≤k+1:=Nat.le_succ_of_le (Nat.min_eq_right h▸I.cnt)
theorem df.gs12(I:df L k i j p l gs top H)(hk:k<50):gs.length≤12:=Nat.le_of_lt_succ (Nat.lt_of_mul_lt_mul_left (a:=4) (aA I.cnt0 (dH (Nat.succ_lt_succ hk) (by decide))))
theorem df.push(I:df L k i j p l gs top H)(h:3≤j)(g:Int):4*(gs++[g]).length≤k+1:=by rw[List.length_append];exact bK (Nat.min_eq_right h▸I.cnt)
theorem df.l1000(I:df L k i j p l gs top H)(hk:k<50):aw l≤1000:=ad I.ll (ad (bJ hk) (by decide))
theorem df.put_len(I:df L k i j p l gs top H)(x:String)(v:Int):aw (cN l x v)≤k+1:=ad (yG l x v) (bK I.ll)
theorem Dy.put(d:Dy L k l gs H){x:String}{v:Int}(hx:lX x)(hv:0≤v∧v≤3)(hp:p∈L)(hs:p.sets x)(hl:aw (cN l x v)≤k):Dy L k (cN l x v) gs H:=by
 refine⟨λ y hy=>?_,λ y hy hn=>?_,d.gsok,d.good,hl,d.lh⟩
 ·rw[qB hx hy]
  by_cases e:x=y
  ·rw[aZ e];exact hv
  ·rw[aI e];exact d.vals y hy
 ·exact(qB hx hy).trans ((aI λ (e:x=y)=>hn p hp (e▸hs)).trans (d.zero y hy hn))
theorem D7.put{C:Nat→Prop}(c:Oy L H i l)(hp:L[i]?=some p){x:String}{v:Int}(hx:lX x)(hs:p.sets x):Oy L H i (cN l x v):=by
 obtain⟨H',h,e,hi,hk⟩:=c
 subst hi
 refine⟨H',h,e,rfl,λ y hy q hq hn=>(qB hx hy).trans ((aI λ e=>hn ?_).trans (hk y hy q hq hn))⟩
 obtain rfl:=an (hp.symm.trans hq)
 exact e▸hs
theorem D7.ne(c:D7 L H l C):H≠[]:=by
 obtain⟨H',h,rfl,_,_⟩:=c
 exact λ e=>absurd (ae List.length e) (by rw[List.length_append];exact Nat.succ_ne_zero _)
theorem iq(d:Dy L k l gs H)(c:Oy L H i l)(hs:N9 L i i')(hi:i'≤L.length)(hc:4*gs.length≤k):jA L k (bq L i') l (aU gs) H:=
 (Nat.lt_or_eq_of_le hi).elim (λ h=>.row i' 0 L[i'] gs [] rfl (aH _).symm ⟨d,bz h,ao (by decide) (lF _).1,hc,K3 rfl,λ _=>.left (let⟨H',h0,e,hi0,hk⟩:=c;⟨H',h0,e,hi0▸hs,hk⟩),λ h=>absurd h (by decide),λ h=>absurd h (by decide),λ he=>absurd he c.ne⟩)
  λ e=>.off (ae _ e) c.ne d.good d.lh (cD gs)
theorem se(d:Dy L k l gs H)(c:Oy L H i l)(hp:L[i]?=some p)(hj:j<p.nr)(h2:2≤j)(hc:4*gs.length+min j 3≤k)(ht:xx p (bq L i) j l top)(e:pile=aU gs++top):jA L k (bq L i+j) l pile H:=
 .row i j p gs top rfl e ⟨d,hp,hj,hc,ht,λ h=>absurd (ad h2 h) (by decide),λ h=>absurd (h▸h2) (by decide),λ _=>c,λ he=>absurd he c.ne⟩
inductive dG(L:List Lp)(n:Nat)(P:Pg)(k a:Nat)(l:List (D×Int))(pile:List D)(H:List Hn):Prop
 |go (a':Nat) (l':List (D×Int)) (pile':List D) (H':List Hn) (hx:NX n P a l pile (cF L H) a' l' pile' (cF L H')) (I:jA L (k+1) a' l' pile' H')
 |stop (h:∀b tn,∃d,∀kk,af (br (ec aP (ay aP (n+12)) 40 tg.ns) Ei (qZ (Int.ofNat a) tn) (bn P b l pile (cF L H)) kk)= .val d (bn P b l pile (cF L H))) (ne:H≠[])
 |rg (r:cL P a (.tup [.str (S "RETURN"),.none])) (hp:pile=[]) (ne:H≠[])
theorem Mr(W:Wd L P)(I:df L k i 0 p l gs [] H)(hk:k<50):dG L n P k (bq L i+0) l (aU gs) H:=
 .go _ _ _ H (uV W.ok (bS L H) (t:=jX) (x:= "X") (cD gs) (by decide) (I.l1000 hk) (W.rows i p I.hp 0 _ rfl)) (.row i 1 p gs [] rfl (aH _).symm
  ⟨⟨λ x hx=>by rw[gD hx];exact I.vals x hx,λ x hx hn=>(gD hx).trans (I.zero x hx hn),I.gsok,I.good,I.put_len _ _,Nat.le_succ_of_le I.lh⟩,I.hp,ao (by decide) (lF _).1,bK I.cnt,K3 rfl,λ _=>by
   induction I.fresh (by decide)with
   |first h e=>exact .first h e
   |left h=>
    obtain⟨H',h,e,hs,hv⟩:=h
    exact .left ⟨H',h,e,hs,λ x hx q hq hn=>(gD hx).trans (hv x hx q hq hn)⟩,
  λ _=>by
   rw[gD (.inl rfl),gD (.inr (.inl rfl)),gD (.inr (.inr rfl)),iF,aZ rfl]
   show 10*(10*valI l "A"+valI l "B")+valI l "C"=_
   rw[Int.mul_add,←Int.mul_assoc]
   rfl,
  λ h=>absurd h (by decide),λ h=>let⟨e1,e2⟩:=I.h0 h;⟨e1,ae (·+1) e2⟩⟩)
theorem Mq(W:Wd L P)(I:df L k i 1 p l gs [] H)(hk:k<50):dG L n P k (bq L i+1) l (aU gs) H:=by
 have e:cF L H++[.tup [.str p.w,.int (valI l "X")]]=cF L (H++[ux i l]):=by
  rw[I.xval rfl,←show nz L i=p.w from ae (λ o=>o.elim (S "") Lp.w) I.hp]
  exact(List.map_append (f:=Bx L) (l₁:=H) (l₂:=[ux i l])).symm
 exact .go _ _ _ (H++[ux i l]) (e▸JB W.ok (bS L H) (cD gs) (uW L H▸ad I.lh (ad (bJ hk) (by decide))) (W.rows i p I.hp 1 _ rfl))
  (se (j:=2) ⟨I.vals,I.zero,I.gsok,y8 I.toDy (I.fresh (by decide)) (d8 I.hp),Nat.le_succ_of_le I.ll,by rw[List.length_append];exact bK I.lh⟩ ⟨H,ux i l,rfl,rfl,λ x hx q hq hn=>(jh hx).symm⟩ I.hp (ao (by decide) (lF _).1) (by decide) (bK I.cnt) (K3 rfl) (aH _).symm)
theorem OX{b:Nat}:xx p b 3 l []:=by
 show cond (Nat.beq p.kind 7) ([]=[]) (cond (Nat.beq p.kind 9) ([]=[]∨_) ([]=[]))
 induction Nat.beq p.kind 7 using Bool.casesOn with
 |true=>exact rfl
 |false=>induction Nat.beq p.kind 9 using Bool.casesOn with
  |true=>exact .inl rfl
  |false=>exact rfl
theorem io(hp:L[i]?=some p)(h:j+1=p.nr):bq L i+j+1=bq L (i+1):=(cI ..).trans ((ae (bq L i+·) h).trans (wb hp).symm)
theorem Mp(W:Wd L P)(I:df L k i 2 p l gs [] H)(hk:k<50):dG L n P k (bq L i+2) l (aU gs) H:=
 have hn:=(W.lps i p I.hp).nm
 have hs:p.sets p.nm:= .inl rfl
 have hd:=I.dy.put (x:=p.nm) (v:=bE l p.addT) hn (MX _) (ge I.hp) hs (I.put_len _ _)
 have hc:=(I.cur (by decide)).put (C:=λ _=>True) I.hp (v:=bE l p.addT) hn hs
 .go _ _ _ H (uV W.ok (bS L H) (t:=p.addT) (x:=p.nm) (cD gs) (show(1:Nat)<10 by decide) (I.l1000 hk) (W.rows i p I.hp 2 _ rfl)) ((Nat.lt_or_eq_of_le (lF p.kind).1).elim
  (λ h=>se (j:=3) hd hc I.hp h (by decide) (bK I.cnt) OX (aH _).symm) λ h=>io I.hp h▸iq hd hc (.next rfl) (d8 I.hp) I.cnt0)
end
end
section
open PySem.Spec
variable{v o:Int}
theorem le3:∀n:Nat,n≤3→((n:Int)=0∨(n:Int)=1∨(n:Int)=2∨(n:Int)=3):=by decide
theorem Px(h:0≤v∧v≤3):v=0∨v=1∨v=2∨v=3:=by
 obtain⟨n,rfl⟩:=Int.eq_ofNat_of_zero_le h.1
 exact le3 n (Int.ofNat_le.mp h.2)
theorem le2:∀m:Nat,m≤2→∀n:Nat,n≤m→(n:Int)≠(m:Int)→((n:Int)=0∧(m:Int)=1∨(n:Int)=0∧(m:Int)=2∨(n:Int)=1∧(m:Int)=2):=by decide
theorem o3b(h:o=0∨o=1∨o=2):∃m:Nat,o=m∧m≤2:=by rcases h with rfl|rfl|rfl<;>exact⟨_,rfl,by decide⟩
theorem N3(h0:0≤v)(h:v≤o)(ne:v≠o)(ho:o=0∨o=1∨o=2):v=0∧o=1∨v=0∧o=2∨v=1∧o=2:=by
 obtain⟨n,rfl⟩:=Int.eq_ofNat_of_zero_le h0
 obtain⟨m,rfl,hm⟩:=o3b ho
 exact le2 m hm n (Int.ofNat_le.mp h) ne
theorem Fu(h:o=0∨o=1∨o=2):0≤o∧o≤2:=let⟨m,e,hm⟩:=o3b h;e▸⟨Int.natCast_nonneg m,Int.ofNat_le.mpr hm⟩
theorem up3(h0:0≤v)(h2:v≤2):0≤v+1∧v+1≤3:=⟨Int.add_nonneg h0 (by decide),Int.add_le_add_right h2 1⟩
theorem CH(gs:List Int)(g:Int):aU gs++[.tup [.str (S "GOSUB"),.int g]]=aU (gs++[g]):=(List.map_append (f:=λ g=>D.tup [.str (S "GOSUB"),.int g]) (l₁:=gs) (l₂:=[g])).symm
theorem p8{p:Lp}{c j:Nat}(h:p.kind=c)(hc:j<yi c):j<p.nr:=Nat.lt_of_lt_of_eq hc (jJ h).symm
inductive Ou(L:List Lp)(P:Pg)(i:Nat)(g:Int):Prop
 |mk (i':Nat) (hi:i'≤L.length) (hs:N9 L i i') (hl:aR P.places (.inl g)=some (.int (Int.ofNat (bq L i'))))
section
variable{L:List Lp}{P:Pg}{k i j:Nat}{p:Lp}{l:List (D×Int)}{gs:List Int}{top:List D}{H:List Hn}{n:Nat}
theorem qk(W:Wd L P)(hp:L[i]?=some p){g:Int}(hg:p.goal g):Ou L P i g:=by
 have ok:=W.lps i p hp
 obtain⟨i',q,hq,rfl⟩:t6 L g:=hg.elim (λ h=>h.2▸ok.g0) λ h=>h.2.elim (λ e=>e▸ok.g0) λ e=>e▸ok.g1
 exact⟨i',bJ (d8 hq),.goal p q hp hq hg,W.places i' q hq⟩
theorem df.stay0(I:df L k i j p l gs [] H)(h3:3≤j){j' c:Nat}(h:p.kind=c)(hc:j'<yi c)(h3':3≤j')(ht:uo p (bq L i) j' l [] c):jA L (k+1) (bq L i+j') l (aU gs) H:=
 se I.dy (I.cur (bQ h3)) I.hp (p8 h hc) (bQ h3') (by rw[Nat.min_eq_right h3'];exact I.cnt3 h3) (gb h▸ht) (aH _).symm
theorem df.next(I:df L k i j p l gs [] H)(h2:2≤j):jA L (k+1) (bq L (i+1)) l (aU gs) H:=iq I.dy (I.cur h2) (.next rfl) (d8 I.hp) I.cnt0
theorem lv(W:Wd L P)(I:df L k i j p l gs [] H)(h2:2≤j){g:Int}(hg:p.goal g)(hr:cL P (bq L i+j) (kO g)):dG L n P k (bq L i+j) l (aU gs) H:=
 let⟨i',hi,hs,hl⟩:=qk W I.hp hg
 .go _ _ _ H (Fz W.ok (bS L H) (cD gs) hl hr) (iq I.dy (I.cur h2) hs hi I.cnt0)
theorem jc(I:df L k i j p l gs [] H)(h2:2≤j)(h:j+1=p.nr)(hx:NX n P (bq L i+j) l (aU gs) (cF L H) (bq L i+j+1) l (aU gs) (cF L H)):dG L n P k (bq L i+j) l (aU gs) H:=
 .go _ _ _ H (io I.hp h▸hx) (I.next h2)
theorem EM(W:Wd L P)(I:df L k i 3 p l gs [] H)(h:p.kind=1):dG L n P k (bq L i+3) l (aU gs) H:=lv W I (by decide) (.inl ⟨.inl h,rfl⟩) (W.rows i p I.hp 3 _ (c6 h 0))
theorem ift(W:Wd L P){a a':Nat}(hr:cL P a (.tup [.str (S "IFNOT"),p.testT.toD,.int (Int.ofNat a')])):
  NX n P a l (aU gs) (cF L H) (a+1) l (aU gs) (cF L H)∨NX n P a l (aU gs) (cF L H) a' l (aU gs) (cF L H):=
 (Decidable.em (bE l p.testT=0)).elim (λ hb=>.inr (JD (t:=p.testT) W.ok (bS L H) (cD gs) (show(1:Nat)≤3 by decide) hb hr)) λ hb=>.inl (JC (t:=p.testT) W.ok (bS L H) (cD gs) (show(1:Nat)≤3 by decide) hb hr)
theorem xY(W:Wd L P)(I:df L k i 3 p l gs [] H)(h:p.kind=2):dG L n P k (bq L i+3) l (aU gs) H:=
 (ift (n:=n) W (W.rows i p I.hp 3 _ (c6 h 0))).elim (λ hx=>.go _ _ _ H hx (I.stay0 (j':=4) (by decide) h (by decide) (by decide) rfl)) λ hx=>.go _ _ _ H hx (I.stay0 (j':=6) (by decide) h (by decide) (by decide) rfl)
theorem xX(W:Wd L P)(I:df L k i 5 p l gs [] H)(h:p.kind=2):dG L n P k (bq L i+5) l (aU gs) H:=
 .go _ _ _ H (io (j:=6) I.hp (jJ h).symm▸Fy (n:=n) (a:=bq L i+5) (a':=bq L i+7) (l:=l) W.ok (bS L H) (cD gs) (W.rows i p I.hp 5 _ (c6 h 2))) (I.next (by decide))
theorem Mu(W:Wd L P)(I:df L k i j p l gs top H):bE l (.nm p.src)=0∨bE l (.nm p.src)=1∨bE l (.nm p.src)=2∨bE l (.nm p.src)=3:=Px (I.vals p.src (W.lps i p I.hp).src)
theorem EL(W:Wd L P)(I:df L k i 3 p l gs [] H)(h:p.kind=3):dG L n P k (bq L i+3) l (aU gs) H:=by
 have hr:=W.rows i p I.hp 3 _ (c6 h 0)
 have hnr:3+1=p.nr:=(jJ h).symm
 rcases Mu W I with hv|hv|hv|hv
 ·exact jc I (by decide) hnr (Bp (t:= .nm p.src) W.ok (bS L H) (cD gs) (bo 3) (.inl hv) hr)
 ·obtain⟨i',hi,hs,hl⟩:=qk W (g:=p.g0) I.hp (.inr ⟨.inr (.inl h),.inl rfl⟩)
  exact .go _ _ _ H (Bo (t:= .nm p.src) W.ok (bS L H) (cD gs) (bo 3) (.inl ⟨hv,hl⟩) hr) (iq I.dy (I.cur (by decide)) hs hi I.cnt0)
 ·obtain⟨i',hi,hs,hl⟩:=qk W (g:=p.g1) I.hp (.inr ⟨.inr (.inl h),.inr rfl⟩)
  exact .go _ _ _ H (Bo (t:= .nm p.src) W.ok (bS L H) (cD gs) (bo 3) (.inr ⟨hv,hl⟩) hr) (iq I.dy (I.cur (by decide)) hs hi I.cnt0)
 ·exact jc I (by decide) hnr (Bp (t:= .nm p.src) W.ok (bS L H) (cD gs) (bo 3) (.inr hv) hr)
theorem vH(I:df L k i 3 p l gs [] H)(h45:p.kind=4∨p.kind=5)(hj:3+1=p.nr){g:Int}{i':Nat}(G:Ou L P i g)(hx:∀i',aR P.places (.inl g)=some (.int (Int.ofNat (bq L i')))→NX n P (bq L i+3) l (aU gs) (cF L H) (bq L i') l (aU gs++[.tup [.str (S "GOSUB"),.int (Int.ofNat (bq L i+3+1))]]) (cF L H)):dG L n P k (bq L i+3) l (aU gs) H:=by
 obtain⟨i',hi,hs,hl⟩:=G
 have d:=I.dy
 refine .go _ _ _ H (CH .. ▸hx i' hl) (iq ⟨d.vals,d.zero,λ g hg=>(ca.mp hg).elim (d.gsok g) λ h=>⟨i,p,I.hp,h45,?_⟩,d.good,d.ll,d.lh⟩ (I.cur (by decide)) hs hi (I.push (by decide) _))
 rw[aC.mp h,io I.hp hj]
theorem EK(W:Wd L P)(I:df L k i 3 p l gs [] H)(hk:k<50)(h:p.kind=4):dG L n P k (bq L i+3) l (aU gs) H:=
 vH (i':=0) I (.inl h) (jJ h).symm (qk W (g:=p.g0) I.hp (.inl ⟨.inr h,rfl⟩)) λ i' hl=>Bs W.ok (bS L H) (cD gs) (nW (I.gs12 hk)) hl (W.rows i p I.hp 3 _ (c6 h 0))
theorem EJ(W:Wd L P)(I:df L k i 3 p l gs [] H)(hk:k<50)(h:p.kind=5):dG L n P k (bq L i+3) l (aU gs) H:=by
 have hr:=W.rows i p I.hp 3 _ (c6 h 0)
 have hnr:3+1=p.nr:=(jJ h).symm
 rcases Mu W I with hv|hv|hv|hv
 ·exact jc I (by decide) hnr (Bn (t:= .nm p.src) W.ok (bS L H) (cD gs) (bo 3) (.inl hv) hr)
 ·exact vH (i':=0) I (.inr h) hnr (qk W (g:=p.g0) I.hp (.inr ⟨.inr (.inr h),.inl rfl⟩)) λ i' hl=>Bm (t:= .nm p.src) W.ok (bS L H) (cD gs) (nW (I.gs12 hk)) (bo 3) (.inl ⟨hv,hl⟩) hr
 ·exact vH (i':=0) I (.inr h) hnr (qk W (g:=p.g1) I.hp (.inr ⟨.inr (.inr h),.inr rfl⟩)) λ i' hl=>Bm (t:= .nm p.src) W.ok (bS L H) (cD gs) (nW (I.gs12 hk)) (bo 3) (.inr ⟨hv,hl⟩) hr
 ·exact jc I (by decide) hnr (Bn (t:= .nm p.src) W.ok (bS L H) (cD gs) (bo 3) (.inr hv) hr)
theorem xW(W:Wd L P)(I:df L k i 3 p l gs [] H)(h:p.kind=6):dG L n P k (bq L i+3) l (aU gs) H:=
 (ift (n:=n) W (W.rows i p I.hp 3 _ (c6 h 0))).elim (λ hx=>.go _ _ _ H hx (I.stay0 (j':=4) (by decide) h (by decide) (by decide) rfl)) λ hx=>.go _ _ _ H (io (j:=4) I.hp (jJ h).symm▸hx) (I.next (by decide))
theorem xV(W:Wd L P)(I:df L k i 4 p l gs [] H)(hk:k<50)(h:p.kind=6):dG L n P k (bq L i+4) l (aU gs) H:=by
 have hr:=W.rows i p I.hp 4 _ (c6 h 1)
 have hc:=I.cur (by decide)
 rcases List.eq_nil_or_concat gs with rfl|⟨gs0,g,rfl⟩
 ·exact .rg hr rfl hc.ne
 ·rw[List.concat_eq_append]at*
  obtain⟨i0,q,hq,h45,rfl⟩:=I.gsok g (b7 _ (aC.mpr rfl))
  have hl:=I.gs12 hk
  rw[List.length_append]at hl
  have d:=I.dy
  exact .go _ _ _ H (JA (a':=bq L (i0+1)) W.ok (bS L H) (bQ hl) hr) (iq ⟨d.vals,d.zero,λ g hg=>d.gsok g (List.mem_append_left _ hg),d.good,d.ll,d.lh⟩ hc (.back p i0 q I.hp h hq h45 rfl) (d8 hq) (ad (Nat.mul_le_mul_left 4 (by rw[List.length_append];exact aB _ 1)) I.cnt0))
theorem EI(W:Wd L P)(I:df L k i 3 p l gs [] H)(h:p.kind=8):dG L n P k (bq L i+3) l (aU gs) H:=
 have hr:=W.rows i p I.hp 3 _ (c6 h 0)
 let⟨ln,hr2⟩:=hr.row
 .stop (λ b tn=>⟨_,λ kk=>O2 (n+12) P b l _ _ _ tn ln hr.sm hr.no hr.bl [] hr2 kk⟩) (I.cur (by decide)).ne
theorem DY:lX "C":= .inr (.inr rfl)
theorem Ma:valI (cN l "C" v) "C"=v:=(iF ..).trans (aZ rfl)
theorem xU(W:Wd L P)(I:df L k i 3 p l gs [] H)(hk:k<50)(h:p.kind=7):dG L n P k (bq L i+3) l (aU gs) H:=
 have ho:=(W.lps i p I.hp).o3
 have hs:p.sets "C":= .inr (.inl ⟨h,rfl⟩)
 .go _ _ _ H (JE (n:=n) (l:=l) (a:=bq L i+3) W.ok (bS L H) (I.gs12 hk) (I.l1000 hk) ho (W.rows i p I.hp 3 _ (c6 h 0))) (se (j:=4) (I.dy.put DY (by decide) (ge I.hp) hs (I.put_len _ _)) ((I.cur (by decide)).put (C:=λ _=>True) I.hp DY hs) I.hp (p8 h (by decide)) (by decide) (I.cnt3 (by decide))
  ((gb h).mpr (And.intro rfl (by rw[Ma];exact(Fu ho).1))) rfl)
theorem xT(W:Wd L P)(I:df L k i 4 p l gs top H)(hk:k<50)(h:p.kind=7):dG L n P k (bq L i+4) l (aU gs++top) H:=by
 have ho:=(W.lps i p I.hp).o3
 have hs:p.sets "C":= .inr (.inl ⟨h,rfl⟩)
 obtain⟨rfl,hle⟩:top=[bR (Int.ofNat (bq L i+4)) p.o3]∧valI l "C"≤p.o3:=(gb h).mp I.top
 have h0:=(I.vals "C" DY).1
 have hr:=W.rows i p I.hp 4 _ (c6 h 1)
 have cur (v:Int):=(I.cur (by decide)).put (C:=λ _=>True) I.hp DY hs (v:=v)
 have dy {v:Int} (hv:0≤v∧v≤3):=I.dy.put DY hv (ge I.hp) hs (I.put_len _ _)
 by_cases he:valI l "C"=p.o3
 ·exact .go _ _ _ H (io (j:=4) I.hp (jJ h).symm▸Bq (n:=n) (l:=l) (a:=bq L i+4) (pl:=Int.ofNat (bq L i+4)) W.ok (bS L H) (I.gs12 hk) (I.l1000 hk) ho he hr) (iq (dy (up3 (Fu ho).1 (Fu ho).2)) (cur _) (.next rfl) (d8 I.hp) I.cnt0)
 ·exact .go _ _ _ H (Br (n:=n) (l:=l) (a:=bq L i+4) (a':=bq L i+4) (v:=valI l "C") (lim:=p.o3) W.ok (bS L H) (I.gs12 hk) (I.l1000 hk) (N3 h0 hle he ho) rfl hr) (se (j:=4) (dy (up3 h0 (Int.le_trans hle (Fu ho).2))) (cur _) I.hp (p8 h (by decide)) (by decide) (I.cnt3 (by decide)) ((gb h).mpr (And.intro rfl (by rw[Ma];exact Int.add_one_le_of_lt (Int.lt_iff_le_and_ne.mpr ⟨hle,he⟩)))) rfl)
theorem xS(W:Wd L P)(I:df L k i 3 p l gs top H)(hk:k<50)(h:p.kind=9):dG L n P k (bq L i+3) l (aU gs++top) H:=by
 have ht:top=[]∨top=[bO (Int.ofNat (bq L i+3))]:=(gb h).mp I.top
 have hp:aU gs++top=aU gs∨aU gs++top=aU gs++[bO (Int.ofNat (bq L i+3))]:=ht.imp (λ e=>by rw[e,aH]) λ e=>by rw[e]
 have hr:=W.rows i p I.hp 3 _ (c6 h 0)
 have hc:=I.cur (by decide)
 by_cases hb:bE l p.testT=0
 ·exact .go _ _ _ H (io (j:=5) I.hp (jJ h).symm▸MP (n:=n) (l:=l) (t:=p.testT) (a:=bq L i+3) (a':=bq L i+5) W.ok (bS L H) (I.gs12 hk) (show(1:Nat)≤3 by decide) hb hp (W.pairs i p I.hp h).1 hr) (iq I.dy hc (.next rfl) (d8 I.hp) I.cnt0)
 ·exact .go _ _ _ H (MO (n:=n) (l:=l) (t:=p.testT) (a:=bq L i+3) W.ok (bS L H) (I.gs12 hk) (show(1:Nat)≤3 by decide) hb hp hr) (se (j:=4) I.dy hc I.hp (p8 h (by decide)) (by decide) (I.cnt3 (by decide)) ((gb h).mpr (Eq.refl [bO (Int.ofNat (bq L i+3))])) rfl)
theorem xR(W:Wd L P)(I:df L k i 4 p l gs top H)(hk:k<50)(h:p.kind=9):dG L n P k (bq L i+4) l (aU gs++top) H:=by
 obtain rfl:top=[bO (Int.ofNat (bq L i+3))]:=(gb h).mp I.top
 have hs:p.sets p.src:= .inr (.inr ⟨h,rfl⟩)
 have hsrc:=(W.lps i p I.hp).src
 exact .go _ _ _ H (uV (n:=n) (l:=l) (pile:=aU gs++[bO (Int.ofNat (bq L i+3))]) (a:=bq L i+4) (x:=p.src) (t:=p.incT) W.ok (bS L H) (dU rfl (cD gs)) (show(1:Nat)<10 by decide) (I.l1000 hk) (W.rows i p I.hp 4 _ (c6 h 1)))
  (se (j:=5) (I.dy.put hsrc (MX _) (ge I.hp) hs (I.put_len _ _)) ((I.cur (by decide)).put (C:=λ _=>True) I.hp hsrc hs) I.hp (p8 h (by decide)) (by decide) (I.cnt3 (by decide)) ((gb h).mpr (Eq.refl [bO (Int.ofNat (bq L i+3))])) rfl)
theorem xQ(W:Wd L P)(I:df L k i 5 p l gs top H)(hk:k<50)(h:p.kind=9):dG L n P k (bq L i+5) l (aU gs++top) H:=by
 obtain rfl:top=[bO (Int.ofNat (bq L i+3))]:=(gb h).mp I.top
 exact .go _ _ _ H (Fw (n:=n) (l:=l) (a:=bq L i+5) (a':=bq L i+3) W.ok (bS L H) (I.gs12 hk) (W.pairs i p I.hp h).2 (W.rows i p I.hp 5 _ (c6 h 2))) (se (j:=3) I.dy (I.cur (by decide)) I.hp (p8 h (by decide)) (by decide) (I.cnt3 (by decide)) ((gb h).mpr (Or.inr (Eq.refl [bO (Int.ofNat (bq L i+3))]))) rfl)
end
end
section
open PySem.Spec
variable{c:Nat}
theorem Eg:∀k:Nat,k≤9→(k=0∨k=1∨k=2∨k=3∨k=4∨k=5∨k=6∨k=7∨k=8∨k=9):=by decide
theorem lt4:∀j:Nat,j<4→(j=0∨j=1∨j=2∨j=3):=by decide
theorem Pf:∀j:Nat,j<3→(j=0∨j=1∨j=2):=by decide
theorem M7:∀j:Nat,j<2→(j=0∨j=1):=by decide
section
variable{L:List Lp}{P:Pg}{k i i' j:Nat}{p:Lp}{l:List (D×Int)}{gs:List Int}{top pile:List D}{H:List Hn}{n:Nat}
theorem Ng{m:Nat}(h:p.kind=c)(hj:j+3<p.nr)(e:yi c=m+3):j<m:=Nat.lt_of_add_lt_add_right (Nat.lt_of_lt_of_eq hj ((jJ h).trans e))
theorem j0(h:p.kind=c)(hj:j+3<p.nr)(e:yi c=1+3):j=0:=Nat.lt_one_iff.mp (Ng h hj e)
theorem gc(h:top=[])(t:top=[]→dG L n P k j l (aU gs) H):dG L n P k j l (aU gs++top) H:=by
 have:=t h
 rw[h,aH]
 exact this
theorem EN(W:Wd L P)(I:df L k i j p l gs top H)(hk:k<50):dG L n P k (bq L i+j) l (aU gs++top) H:=by
 have hj:=I.hj
 induction j using Nat.casesOn with
 |zero=>exact gc (Dt I.top) λ e=>Mr W (e▸I) hk
 |succ j=>induction j using Nat.casesOn with
  |zero=>exact gc (Dt I.top) λ e=>Mq W (e▸I) hk
  |succ j=>induction j using Nat.casesOn with
   |zero=>exact gc (Dt I.top) λ e=>Mp W (e▸I) hk
   |succ j=>
    have t {c:Nat} (h:p.kind=c):uo p (bq L i) (j+3) l top c:=(gb h).mp I.top
    rcases Eg _ (W.lps i p I.hp).kind with h|h|h|h|h|h|h|h|h|h
    ·exact absurd (Nat.lt_of_lt_of_eq hj (jJ h)) (aN.mpr (cC 3 j))
    ·obtain rfl:=j0 h hj rfl
     exact gc (t h) λ e=>EM W (e▸I) h
    ·refine gc (t h) λ e=>?_
     subst e
     rcases lt4 j (Ng h hj rfl)with rfl|rfl|rfl|rfl
     ·exact xY W I h
     ·exact lv W I (by decide) (.inr ⟨.inl h,.inl rfl⟩) (W.rows i p I.hp 4 _ (c6 h 1))
     ·exact xX W I h
     ·exact lv W I (by decide) (.inr ⟨.inl h,.inr rfl⟩) (W.rows i p I.hp 6 _ (c6 h 3))
    ·obtain rfl:=j0 h hj rfl
     exact gc (t h) λ e=>EL W (e▸I) h
    ·obtain rfl:=j0 h hj rfl
     exact gc (t h) λ e=>EK W (e▸I) hk h
    ·obtain rfl:=j0 h hj rfl
     exact gc (t h) λ e=>EJ W (e▸I) hk h
    ·refine gc (t h) λ e=>?_
     subst e
     rcases M7 j (Ng h hj rfl)with rfl|rfl
     ·exact xW W I h
     ·exact xV W I hk h
    ·rcases M7 j (Ng h hj rfl)with rfl|rfl
     ·exact gc (t h) λ e=>xU W (e▸I) hk h
     ·exact xT W I hk h
    ·obtain rfl:=j0 h hj rfl
     exact gc (t h) λ e=>EI W (e▸I) h
    ·rcases Pf j (Ng h hj rfl)with rfl|rfl|rfl
     ·exact xS W I hk h
     ·exact xR W I hk h
     ·exact xQ W I hk h
inductive LL(L:List Lp)(P:Pg)(r:mM):Prop
 |mk (b:Bool) (l:List (D×Int)) (pile:List D) (H:List Hn) (ne:H≠[]) (good:eG L H) (lh:H.length≤50) (hr:oW r (bn P b l pile (cF L H)))
noncomputable def jy:Stmt→Expr
 | .For t _ _ _ _=>t
 |_=>.Constant .none 0 ⟨0,0,0,0⟩
noncomputable def PB:Expr:=jy (bZ tg.body 0)
noncomputable def rh:List Stmt:=[bZ tg.body 1]
noncomputable def BW(a:Int):Loc:=[(S "self",.ob 11),(S "at",.int a),(S "most",.int 50)]
theorem oO(a t:Int):gC true tg.ns 4 PB (.int t) (BW a)=some (qZ a t):=by kernel_rfl
theorem DX(n:Nat)(P:Pg)(b:Bool)(l:List (D×Int))(pile notes:List D)(a:Nat)(h1:small P.rows=true):∃d,∀kk,af (br (ec aP (ay aP (n+12)) 40 tg.ns) rh (BW (Int.ofNat a)) (bn P b l pile notes) kk)= .val d (bn P b l pile notes):=by
 induction h2:decide (((aw P.rows:Nat):Int)≤(Int.ofNat a))using Bool.casesOn with
 |true=>exact⟨.int (Int.ofNat a),λ kk=>oV (s:=gv (.int (aw P.rows:Nat)) (bn P b l pile notes)::gv (.bool true) (bn P b l pile notes)::[]) (dA (bn P b l pile notes) 1 rfl h1) (mJ (bn P b l pile notes) h2)⟩
 |false=>exact⟨.int (-1),λ kk=>oV (s:=gv (.int (aw P.rows:Nat)) (bn P b l pile notes)::gv (.bool false) (bn P b l pile notes)::[]) (dA (bn P b l pile notes) 1 rfl h1) (mJ (bn P b l pile notes) h2)⟩
theorem BV{α:Type}{x y:List (Str×α)}{k:Str}{d:α}(h:bD x k=some d):bD (x++y) k=some d:=by
 induction x with
 |nil=>exact nsK h
 |cons p r ih=>
  rw[b9]at h
  show bD (p::(r++y)) k=some d
  rw[b9]
  by_cases e:p.1=k
  ·rw[aZ e]at h ⊢
   exact h
  ·rw[aI e]at h ⊢
   exact ih h
theorem AK(W:Wd L P):small P.rows=true:=cG (n:=100) (W.total▸W.le) (by decide)
theorem jA.good(I:jA L k j l pile H):eG L H:=by
 induction I with
 |row i j p gs top ha hp I=>exact I.good
 |off ha ne good lh hp=>exact good
theorem jA.lh(I:jA L k j l pile H):H.length≤k:=by
 induction I with
 |row i j p gs top ha hp I=>exact I.lh
 |off ha ne good lh hp=>exact lh
theorem jA.turn(W:Wd L P){a:Nat}(hk:k<50)(I:jA L k a l pile H):dG L n P k a l pile H:=by
 induction I with
 |row i j p gs top ha hp I=>subst ha hp;exact EN W I hk
 |off ha ne good lh hp=>exact .stop (λ b tn=>⟨_,λ kk=>O0 (n+12) P b l pile (cF L H) a tn (AK W) (bI (Int.ofNat_le.mpr (aM (W.total.trans ha.symm)))) kk⟩) ne
theorem jA.ne(hk:50≤k){a:Nat}(I:jA L k a l pile H):H≠[]:=by
 induction I with
 |row i j p gs top ha hp I=>exact λ he=>absurd (ao I.hj (lF _).2) (aN.mpr (ad (by decide:7≤50) ((I.h0 he).2▸hk)))
 |off ha ne good lh hp=>exact ne
inductive GoE(L:List Lp)(P:Pg)(n:Nat)(ds:List D)(loc:Loc)(st:St):Prop
 |mk (r:mM) (h:LL L P r) (g:El aP (ay aP (n+12)) (Rz aP (n+12)) tg.ns 15 PB Ei rh r ds loc st)
noncomputable def Cr:D→Bool
 | .int _=>true
 |_=>false
theorem Cq{d:D}(h:Cr d=true):∃t,d= .int t:=by
 induction d using D.casesOn with
 |int t=>exact⟨t,rfl⟩
 |_=>exact ftK h
theorem Kz(W:Wd L P)(ds:List D):∀(k a:Nat) (b:Bool) (l:List (D×Int)) (pile:List D) (H:List Hn),ds.length+k=50→ds.all Cr=true→jA L k a l pile H→GoE L P n ds (BW (Int.ofNat a)) (bn P b l pile (cF L H)):=by
 induction ds with
 |nil=>
  intro k a b l pile H hk _ I
  have hk:k=50:=(bC k).symm.trans hk
  obtain⟨d,hd⟩:=DX n P b l pile (cF L H) a (AK W)
  exact⟨.ret d _,⟨b,l,pile,H,I.ne (aM hk.symm),I.good,hk▸I.lh,.ret d rfl⟩,.done (.ret hd)⟩
 |cons x ds ih=>
  intro k a b l pile H hk hd I
  have hd:=aE.mp hd
  obtain⟨t,rfl⟩:=Cq hd.1
  have hk':ds.length+(k+1)=50:=(cE ds.length 1 k▸hk:ds.length+k+1=50)
  have hk50:k<50:=ao (Nat.lt_succ_self k) (ad (cC _ _) (aM hk'))
  have fin (b:Bool) (pile:List D) (ne:H≠[]) {r:mM} (hr:oW r (bn P b l pile (cF L H))):LL L P r:=⟨b,l,pile,H,ne,I.good,ad I.lh (bJ hk50),hr⟩
  induction I.turn (n:=n) W hk50 with
  |go a' l' pile' H' hx I'=>
   obtain⟨st2,b',s,he,hn⟩:=hx b t
   obtain⟨r,hfr,hg⟩:=ih (k+1) a' b' l' pile' H' hk' hd.2 I'
   exact⟨r,hfr,.next (oO _ t) (.of he) hn ⟨λ y d hy=>BV (x:=BW (Int.ofNat a')) (y:=[(S "turn",.int t),(S "statement",s)]) hy,rfl⟩ hg⟩
  |stop h ne=>
   obtain⟨d,hd'⟩:=h b t
   exact⟨.ret d _,fin b pile ne (.ret d rfl),.last (oO _ t) (.ret hd')⟩
  |rg hr hp ne=>
   subst hp
   exact⟨.exc _,fin b [] ne (.exc rfl),.last (oO _ t) (.exc (EY t hr))⟩
end
end
section
open PySem.Spec
theorem cM{Z:Type}{asgf:D→Z→Option Z}{body:Z→St→(Z→St→aD)→aD}{d:D}{ds:List D}{z z1 z2:Z}{st st2:St}(h1:asgf d z=some z1)(h2:∀k,af (body z1 st k)=af (k z2 st2))(k:Z→St→aD):af (eB asgf body (d::ds) z st k)=af (eB asgf body ds z2 st2 k):=by
 show af (cS (asgf d z) λ loc'=>body loc' st λ loc'' st'=>eB asgf body ds loc'' st' k)=_
 rw[h1]
 exact h2 _
inductive ForR{Z:Type}(I:Z→St→Prop)(r:(Z→St→aD)→aD):Prop
 |mk (z':Z) (st':St) (h:∀k,af (r k)=af (k z' st')) (hI:I z' st')
inductive ForS{Z:Type}(asgf:D→Z→Option Z)(body:Z→St→(Z→St→aD)→aD)(I:Z→St→Prop)(d:D)(z:Z)(st:St):Prop
 |mk (z1 z2:Z) (st2:St) (h1:asgf d z=some z1) (h2:∀k,af (body z1 st k)=af (k z2 st2)) (h3:I z2 st2)
noncomputable def mh(run:ee)(m:Nat)(f:Fn)(i:Nat)(ds:List D)(loc:Loc)(st:St)(k:Loc→St→aD):aD:=eB (gC true f.ns 4 (jy (bZ f.body i))) (br (ec aP run m f.ns) (eC (bZ f.body i))) ds loc st k
noncomputable def dZ(rows:List D)(places:List (D×D)):St:=⟨[(6,.dict []),(5,.dict []),(4,.dict []),(3,.list []),(2,.dict places),(1,.list rows),(0,.inst 213 [(S "rows",.ob 1),(S "places",.ob 2),(S "data",.ob 3),(S "pairs",.ob 4),(S "loops",.ob 5),(S "fns",.ob 6)])],7⟩
theorem qI(run:ee)(ln:Int)(ss:List D)(st:St):af (zq aP run (bj 38) [.ob 0,.int ln,.lst ss] st)=af (mh run 39 (bj 38) 0 ss [(S "flat",.ob 0),(S "line",.int ln),(S "statements",.lst ss)] st λ _ st=>.val .none st):=by kernel_rfl
end
section
open PySem.Spec
variable{m:Nat}
section
variable(st:St)(i:Nat)
theorem FI(m:Nat)(d:D){ds ds':List D}(h:aW st.σ i=some (.list ds))(h1:Nat.blt m (aw ds)=true)(h2:Nat.blt m 1000000=true)(h3:mF ds m d=ds'):AG (l5 st (.ob i) (.int (Int.ofNat m)) d)=some (.none,st.put i (.list ds')):=by
 subst h3
 show AG ((aW st.σ i).bind (Jm i st _ d))=_
 rw[h]
 exact ae (λ b=>AG (cond b (some (st.put i (.list (mF ds m d)))) none)) ((ae (·&&Nat.blt m 1000000) h1).trans h2)
theorem kr(k d:D){es es':List (D×D)}{kk:cv}(h:aW st.σ i=some (.dict es))(hk:dN k=some kk)(hs:small es=true)(he:d4 es kk d=es'):AG (l5 st (.ob i) k d)=some (.none,st.put i (.dict es')):=he▸vd st i k d h hk hs
end
theorem cz{α:Type}(xs ys:List α):aw (xs++ys)=aw xs+aw ys:=by rw[bf,bf,bf,List.length_append]
theorem O5(xs l:List D)(k:Nat)(v:D):mF (xs++l) (aw xs+k) v=xs++mF l k v:=by
 induction xs with
 |nil=>exact ae (mF l · v) (bC k)
 |cons x xs ih=>
  refine Eq.trans ?_ (ae (x::·) ih)
  show mF (x::(xs++l)) (aw xs+1+k) v=_
  rw[cE]
  rfl
section
variable(st:St)(i:Nat){rows l l':List D}{m:Nat}
theorem qU(h:aW st.σ i=some (.list (rows++l)))(hr:aw rows≤800)(hm:aw l=m)(hb:Nat.ble m 100=true):rJ st .len [.ob i]=some (.int (Int.ofNat (aw rows+m)),st):=by
 have e:aw (rows++l)=aw rows+m:=(cz rows l).trans (ae (aw rows+·) hm)
 exact ji st i _ h e (cT (e▸ad (cb hr (bu hb)) (by decide)))
theorem qS(k:Nat)(v:D)(h:aW st.σ i=some (.list (rows++l)))(hr:aw rows≤800)(hk:Nat.blt k (aw l)=true)(hb:Nat.ble k 100=true)(he:mF l k v=l'):AG (l5 st (.ob i) (.int (Int.ofNat (aw rows+k))) v)=some (.none,st.put i (.list (rows++l'))):=
 FI st i _ v h (bp.mpr (cz rows l▸Nat.add_lt_add_left (bp.mp hk) _)) (bp.mpr (aA (cb hr (bu hb)) (by decide))) ((O5 rows l k v).trans (ae (rows++·) he))
end
noncomputable def cw(ln:Int)(s:D):D:= .tup [.int ln,s]
theorem A5(n:Nat)(rows:List D)(places:List (D×D))(ln:Int)(s:D)(hs:small rows=true)(hs2:small (rows++[.tup [.int ln,s]])=true)(hk:aw (rows++[.tup [.int ln,s]])=aw rows+1):ay aP (n+1) 224 [.ob 0,.int ln,s] (dZ rows places)=some ((D.int (Int.ofNat (aw rows+1)-1)),(dZ (rows++[D.tup [D.int ln,s]]) places)):=bw (f:=bj 36) (let s0:St:=dZ (rows++[D.tup [D.int ln,s]]) places;(oV (s:=gv (D.none) s0::gv (D.int (Int.ofNat (aw rows+1))) s0::au 1 []) (lH (dZ rows places) 1 (D.tup [D.int ln,s]) (by kernel_rfl) hs) (ji s0 1 (aw rows+1) (by kernel_rfl) hk hs2)))
theorem Nc(h:m≤900):m≤1000:=ad h (by decide)
theorem ES{xs:List D}{x:D}{k:Nat}(h:aw xs≤m)(hk:m+1≤k):aw (xs++[x])≤k:=d9 xs x▸ad (bK h) hk
theorem qH(n:Nat)(rows:List D)(places:List (D×D))(ln:Int)(s:D)(hr:aw rows≤900):ay aP (n+1) 224 [.ob 0,.int ln,s] (dZ rows places)=some (.int (Int.ofNat (aw rows)),dZ (rows++[cw ln s]) places):=
 (A5 n rows places ln s (cT (Nc hr)) (cT (ES hr (by decide))) (d9 _ _)).trans (ae (λ z=>some (D.int z,_)) (Int.add_sub_cancel (Int.ofNat (aw rows)) 1))
theorem Bg(n:Nat)(rows:List D)(places:List (D×D))(ln:Int)(ss:D)(w:PySem.Str)(rest:List D)(he:gw (.str w) (.str (S "IF"))=some false)(hr:aw rows≤900)(k:Mine.Loc→Mine.St→aD):af ((br (ec aP (ay aP (n+1)) 39 (bj 38).ns) (eC (bZ (bj 38).body 0)) [(S "flat",.ob 0),(S "line",.int ln),(S "statements",ss),(S "statement",.tup (.str w::rest))] (dZ rows places) k))=af (k [(S "flat",D.ob 0),(S "line",D.int ln),(S "statements",ss),(S "statement",D.tup (D.str w::rest))] (dZ (rows++[cw ln (D.tup (D.str w::rest))]) places)):=(let s0:St:=dZ rows places;(rX (s:=au 1 (gv (D.bool false) s0::gv (D.int (Int.ofNat (aw rows))) (dZ (rows++[cw ln (D.tup (D.str w::rest))]) places)::[])) (dk s0 w (S "IF") false he) (qH n rows places ln (D.tup (D.str w::rest)) hr)))
theorem MJ(n:Nat)(rows:List D)(places:List (D×D))(ln:Int)(ss:D)(rest:List D)(rows1:List D)(R:ay aP n 231 [.ob 0,.int ln,.tup (.str (S "IF")::rest)] (dZ rows places)=some (.none,dZ rows1 places))(k:Mine.Loc→Mine.St→aD):af ((br (ec aP (ay aP n) 39 (bj 38).ns) (eC (bZ (bj 38).body 0)) [(S "flat",.ob 0),(S "line",.int ln),(S "statements",ss),(S "statement",.tup (.str (S "IF")::rest))] (dZ rows places) k))=af (k [(S "flat",D.ob 0),(S "line",D.int ln),(S "statements",ss),(S "statement",D.tup (D.str (S "IF")::rest))] (dZ rows1 places)):=(fK (s:=au 2 (gv (D.none) (dZ rows1 places)::[])) R)
theorem A6(n:Nat)(rows:List D)(places:List (D×D))(ln:Int)(w:PySem.Str)(rest:List D)(he:gw (.str w) (.str (S "IF"))=some false)(hr:aw rows≤900):ay aP ((n+1)+1) 238 [.ob 0,.int ln,.lst [.tup (.str w::rest)]] (dZ rows places)=some (D.none,(dZ (rows++[cw ln (D.tup (D.str w::rest))]) places)):=bw (f:=bj 38) (let s0:St:=dZ rows places;(oV (s:=au 1 (gv (D.bool false) s0::gv (D.int (Int.ofNat (aw rows))) (dZ (rows++[cw ln (D.tup (D.str w::rest))]) places)::[])) (dk s0 w (S "IF") false he) (qH n rows places ln (D.tup (D.str w::rest)) hr)))
section
variable(n:Nat){rows l:List D}(places:List (D×D))(ln:Int){m:Nat}
theorem Nb(hr:aw rows≤800)(hm:aw l=m)(hb:Nat.ble m 100=true):aw (rows++l)≤900:=cz rows l▸cb hr (hm▸bu hb)
theorem nH(s:D)(hr:aw rows≤800)(hm:aw l=m)(hb:Nat.ble m 100=true):ay aP (n+1) 224 [.ob 0,.int ln,s] (dZ (rows++l) places)=some (.int (Int.ofNat (aw rows+m)),dZ (rows++(l++[cw ln s])) places):=by
 have h:=qH n (rows++l) places ln s (Nb hr hm hb)
 rw[cz,hm,cf]at h
 exact h
theorem lB(w:PySem.Str)(rest:List D)(he:gw (.str w) (.str (S "IF"))=some false)(hr:aw rows≤800)(hm:aw l=m)(hb:Nat.ble m 100=true):ay aP ((n+1)+1) 238 [.ob 0,.int ln,.lst [.tup (.str w::rest)]] (dZ (rows++l) places)=some (.none,dZ (rows++(l++[cw ln (.tup (.str w::rest))])) places):=by
 have h:=A6 n (rows++l) places ln w rest he (Nb hr hm hb)
 rw[cf]at h
 exact h
end
end
section
open PySem.Spec
section
variable(n:Nat){rows:List D}(places:List (D×D))(ln:Int)(tst a b c:D)
noncomputable def Cz(tst:D)(x y:List D):D:= .tup [.str (S "IF"),tst,.lst x,.lst y]
noncomputable def kS(g:Int):D:= .tup [.str (S "GOTO"),.int g]
noncomputable def nF:D:= .tup [.str (S "RETURN"),.none]
noncomputable def Nq(tst:D)(k:Nat):D:= .tup [.str (S "IFNOT"),tst,.int (Int.ofNat k)]
noncomputable def Pr(k:Nat):D:= .tup [.str (S "JUMP"),.int (Int.ofNat k)]
theorem E7(hr:aw rows≤800):ay aP ((n+2)+1) 231 [.ob 0,.int ln,Cz tst [nF] []] (dZ (rows++[a,b,c]) places)=some (.none,dZ (rows++[a,b,c,cw ln (Nq tst (aw rows+5)),cw ln nF]) places):=
 bw (f:=bj 37) (let I:D:=cw ln (Cz tst [nF] []);let s0:St:=dZ (rows++[a,b,c,I,cw ln nF]) places;(IQ (s:=gv (D.int (Int.ofNat (aw rows+3))) (dZ (rows++[a,b,c,I]) places)::au 1 (gv (D.none) s0::au 4 (gv (D.int (Int.ofNat (aw rows+5))) s0::gv (D.none) (dZ (rows++[a,b,c,cw ln (Nq tst (aw rows+5)),cw ln nF]) places)::[]))) (nH (l:=[a,b,c]) (n+1) places ln (Cz tst [nF] []) hr rfl rfl) (lB (l:=[a,b,c,I]) n places ln (S "RETURN") [D.none] (by kernel_rfl) hr rfl rfl) (qU (l:=[a,b,c,I,cw ln nF]) s0 1 (by kernel_rfl) hr rfl rfl) (qS (l:=[a,b,c,I,cw ln nF]) s0 1 3 (cw ln (Nq tst (aw rows+5))) (by kernel_rfl) hr rfl rfl rfl)))
theorem E8(g0 g1:Int)(hr:aw rows≤800):ay aP ((n+2)+1) 231 [.ob 0,.int ln,Cz tst [kS g0] [kS g1]] (dZ (rows++[a,b,c]) places)=some (.none,dZ (rows++[a,b,c,cw ln (Nq tst (aw rows+6)),cw ln (kS g0),cw ln (Pr (aw rows+7)),cw ln (kS g1)]) places):=
 bw (f:=bj 37) (let I:D:=cw ln (Cz tst [kS g0] [kS g1]);let G0:D:=cw ln (kS g0);let G1:D:=cw ln (kS g1);let N:D:=cw ln (Nq tst (aw rows+6));let s0:St:=dZ (rows++[a,b,c,I,G0,I]) places;let s1:St:=dZ (rows++[a,b,c,N,G0,I,G1]) places;(Tv8 (s:=gv (D.int (Int.ofNat (aw rows+3))) (dZ (rows++[a,b,c,I]) places)::au 1 (gv (D.none) (dZ (rows++[a,b,c,I,G0]) places)::au 3 (gv (D.int (Int.ofNat (aw rows+5))) s0::au 1 (gv (D.int (Int.ofNat (aw rows+6))) s0::gv (D.none) (dZ (rows++[a,b,c,N,G0,I]) places)::au 1 (gv (D.none) s1::gv (D.int (Int.ofNat (aw rows+7))) s1::gv (D.none) (dZ (rows++[a,b,c,N,G0,cw ln (Pr (aw rows+7)),G1]) places)::[]))))) (nH (l:=[a,b,c]) (n+1) places ln (Cz tst [kS g0] [kS g1]) hr rfl rfl) (lB (l:=[a,b,c,I]) n places ln (S "GOTO") [.int g0] (by kernel_rfl) hr rfl rfl) (nH (l:=[a,b,c,I,G0]) (n+1) places ln (Cz tst [kS g0] [kS g1]) hr rfl rfl) (qU (l:=[a,b,c,I,G0,I]) s0 1 (by kernel_rfl) hr rfl rfl) (qS (l:=[a,b,c,I,G0,I]) s0 1 3 N (by kernel_rfl) hr rfl rfl rfl) (lB (l:=[a,b,c,N,G0,I]) n places ln (S "GOTO") [.int g1] (by kernel_rfl) hr rfl rfl) (qU (l:=[a,b,c,N,G0,I,G1]) s1 1 (by kernel_rfl) hr rfl rfl) (qS (l:=[a,b,c,N,G0,I,G1]) s1 1 5 (cw ln (Pr (aw rows+7))) (by kernel_rfl) hr rfl rfl rfl)))
end
end
section
open PySem.Spec
variable{d:D}
noncomputable def Pi(ln:Int)(all:D):Loc:=[(S "flat",.ob 0),(S "line",.int ln),(S "statements",all)]
noncomputable def yC(ln:Int)(all s:D):Loc:=[(S "flat",.ob 0),(S "line",.int ln),(S "statements",all),(S "statement",s)]
noncomputable def jb(n:Nat)(ln:Int)(ss rows rows':List D):Prop:=∀(places:List (D×D)) (all:D) (loc:Loc),(∀d,gC true (bj 38).ns 4 (jy (bZ (bj 38).body 0)) d loc=some (yC ln all d))→∃loc',∀k,af (mh (ay aP (n+3)) 39 (bj 38) 0 ss loc (dZ rows places) k)=af (k loc' (dZ rows' places))
section
variable{n:Nat}{ln:Int}{ss rows rows1 rows':List D}
theorem N5(all s d:D):gC true (bj 38).ns 4 (jy (bZ (bj 38).body 0)) d (yC ln all s)=some (yC ln all d):=by kernel_rfl
theorem jb.nil:jb n ln [] rows rows:=λ _ _ loc _=>⟨loc,λ _=>rfl⟩
theorem jb.step(he:∀places all k,af (br (ec aP (ay aP (n+3)) 39 (bj 38).ns) (eC (bZ (bj 38).body 0)) (yC ln all d) (dZ rows places) k)=af (k (yC ln all d) (dZ rows1 places)))(t:jb n ln ss rows1 rows'):jb n ln (d::ss) rows rows':=λ places all loc hl=>
 (t places all (yC ln all d) (N5 all d)).elim λ loc' h=>⟨loc',λ k=>(cM (hl d) (he places all) k).trans (h k)⟩
theorem jb.iff{rest:List D}(R:∀places,ay aP (n+3) 231 [.ob 0,.int ln,.tup (.str (S "IF")::rest)] (dZ rows places)=some (.none,dZ rows1 places))(t:jb n ln ss rows1 rows'):jb n ln (.tup (.str (S "IF")::rest)::ss) rows rows':=
 .step (λ places all=>MJ (n+3) rows places ln all rest rows1 (R places)) t
noncomputable def uO:D→Bool
 | .tup l=>match l with
  |a::_=>match a with
   | .str w=>(gw (.str w) (.str (S "IF"))).elim false not
   |_=>false
  |[]=>false
 |_=>false
theorem tA{o:Option Bool}(h:o.elim false not=true):o=some false:=by
 induction o using Option.casesOn with
 |none=>exact ftK h
 |some b=>induction b using Bool.casesOn with
  |true=>exact ftK h
  |false=>rfl
theorem jb.plain(hd:uO d=true)(hr:aw rows≤900)(t:jb n ln ss (rows++[cw ln d]) rows'):jb n ln (d::ss) rows rows':=by
 induction d using D.casesOn with
 |tup l=>induction l using List.casesOn with
  |nil=>exact ftK hd
  |cons a r=>induction a using D.casesOn with
   |str w=>exact .step (λ places all=>Bg (n+2) rows places ln all w r (tA hd) hr) t
   |_=>exact ftK hd
 |_=>exact ftK hd
theorem nG{ss2:List D}(ss:List D):∀{rows:List D},ss.all uO=true→aw rows+aw ss≤900→jb n ln ss2 (rows++ss.map (cw ln)) rows'→jb n ln (ss++ss2) rows rows':=by
 induction ss with
 |nil=>exact λ {rows} _ _ h=>(aH rows).symm▸h
 |cons d ss ih=>
  intro rows hp hr h
  have hp:=aE.mp hp
  have hr':aw rows+1+aw ss≤900:=cE .. ▸hr
  refine .plain hp.1 (ad (aB _ _) hr) (ih hp.2 (d9 rows (cw ln d)▸hr') ?_)
  rw[cf]
  exact h
theorem uN(h:jb n ln ss rows rows')(places:List (D×D)):ay aP (n+4) 238 [.ob 0,.int ln,.lst ss] (dZ rows places)=some (.none,dZ rows' places):=
 (h places (.lst ss) (Pi ln (.lst ss)) λ d=>by kernel_rfl).elim λ _ h2=>bw (f:=bj 38) ((qI ..).trans (h2 _))
end
theorem GU(n:Nat)(rows:List D)(places:List (D×D))(all:D)(ln:Int)(ss rows2:List D)(places2:List (D×D))(m m2:Nat)(hm:aw rows=m)(hs:small rows=true)(hp:small places=true)(hpp:d4 places (.inl ln) (.int (Int.ofNat m))=places2)(R:ay aP n 238 [.ob 0,.int ln,.lst ss] (dZ rows places2)=some (.none,dZ rows2 places2))(hl:aR places2 (.inl ln)=some (.int (Int.ofNat m)))(hm2:aw rows2=m2)(hs2:small rows2=true)(he:ua 8 (.int (Int.ofNat m)) (.int (Int.ofNat m2))=false)(k:Mine.Loc→Mine.St→aD):af ((br (ec aP (ay aP n) 39 (bj 42).ns) (eC (bZ (bj 42).body 1)) [(S "parsed",all),(S "flat",.ob 0),(S "line",.int ln),(S "statements",.lst ss)] (dZ rows places) k))=af (k [(S "parsed",all),(S "flat",D.ob 0),(S "line",D.int ln),(S "statements",D.lst ss)] (dZ rows2 places2)):=(let s0:St:=dZ rows2 places2;let s1:St:=dZ rows places;(P9 (s:=gv (D.int (Int.ofNat m)) s1::gv (D.none) (dZ rows places2)::gv (D.none) s0::gv (D.int (Int.ofNat m)) s0::gv (D.int (Int.ofNat m2)) s0::gv (.bool false) s0::[]) (ji s1 1 m (by kernel_rfl) hm hs) (kr s1 2 (D.int ln) (D.int (Int.ofNat m)) (by kernel_rfl) (by kernel_rfl) hp hpp) R (fR s0 2 (D.int ln) (by kernel_rfl) (by kernel_rfl) hl) (ji s0 1 m2 (by kernel_rfl) hm2 hs2) (mJ s0 (he))))
end
section
open PySem.Spec
noncomputable def Lp.srcK(p:Lp):Nat→List D
 |2=>[Cz p.testT.toD [kS p.g0] [kS p.g1]]
 |6=>[Cz p.testT.toD [nF] []]
 |k=>p.tailK 0 k
noncomputable def Lp.headD(p:Lp):List D:=[jx "X" jX,.tup [.str (S "REM"),.str p.w],jx p.nm p.addT]
noncomputable def Lp.srcD(p:Lp):List D:=p.headD++p.srcK p.kind
noncomputable def Lp.stK(p:Lp)(b k:Nat):List D:=p.headD++p.tailK b k
section
variable(n:Nat)(p:Lp)(rows:List D)
theorem Ke{m j:Nat}(h:m≤800)(hj:Nat.ble j 100=true):m+j≤900:=cb h (bu hj)
theorem d7(c:Nat)(ss:List D)(hs:p.srcK c=ss)(hp:(p.headD++ss).all uO=true)(hb:Nat.ble (aw (p.headD++ss)) 100=true)(ht:p.tailK (aw rows) c=ss)(hr:aw rows≤800):jb n p.ln (p.headD++p.srcK c) rows (rows++(p.stK (aw rows) c).map (cw p.ln)):=by
 subst hs
 unfold Lp.stK
 rw[ht]
 have h:=nG (n:=n) (ln:=p.ln) (ss2:=[]) _ hp (Ke hr hb) .nil
 rw[aH]at h
 exact h
theorem x7(hr:aw rows≤800)(c:Nat)(hc:c≤9):jb n p.ln (p.headD++p.srcK c) rows (rows++(p.stK (aw rows) c).map (cw p.ln)):=by
 rcases Eg c hc with rfl|rfl|rfl|rfl|rfl|rfl|rfl|rfl|rfl|rfl
 ·exact d7 n p rows 0 _ rfl (by kernel_rfl) rfl rfl hr
 ·exact d7 n p rows 1 _ rfl (by kernel_rfl) rfl rfl hr
 ·exact nG p.headD (by kernel_rfl) (Ke hr rfl) (.iff (λ places=>E8 n places p.ln p.testT.toD _ _ _ p.g0 p.g1 hr) .nil)
 ·exact d7 n p rows 3 _ rfl (by kernel_rfl) rfl rfl hr
 ·exact d7 n p rows 4 _ rfl (by kernel_rfl) rfl rfl hr
 ·exact d7 n p rows 5 _ rfl (by kernel_rfl) rfl rfl hr
 ·exact nG p.headD (by kernel_rfl) (Ke hr rfl) (.iff (λ places=>E7 n places p.ln p.testT.toD _ _ _ hr) .nil)
 ·exact d7 n p rows 7 _ rfl (by kernel_rfl) rfl rfl hr
 ·exact d7 n p rows 8 _ rfl (by kernel_rfl) rfl rfl hr
 ·exact d7 n p rows 9 _ rfl (by kernel_rfl) rfl rfl hr
theorem x6(hk:p.kind≤9)(hr:aw rows≤800):jb n p.ln p.srcD rows (rows++(p.stD (aw rows)).map (cw p.ln)):=x7 n p rows hr p.kind hk
theorem EQ(b c:Nat)(hc:c≤9):aw (p.stK b c)=yi c:=by
 rcases Eg c hc with rfl|rfl|rfl|rfl|rfl|rfl|rfl|rfl|rfl|rfl<;>rfl
theorem ER(b:Nat)(hk:p.kind≤9):aw (p.stD b)=p.nr:=EQ p b p.kind hk
end
end
section
open PySem.Spec
variable{k:cv}{d:D}{a:Int}
abbrev Ds:=List (D×D)
noncomputable def Lp.lineD(p:Lp):D:= .tup [.int p.ln,.lst p.srcD]
noncomputable def Lp.rowsD(p:Lp)(b:Nat):List D:=(p.stD b).map (cw p.ln)
noncomputable def e9:Nat→List Lp→List D
 |_,[]=>[]
 |b,p::r=>p.rowsD b++e9 (b+p.nr) r
noncomputable def dX:Nat→List Lp→Ds
 |_,[]=>[]
 |b,p::r=>(.int p.ln,.int (Int.ofNat b))::dX (b+p.nr) r
theorem B0{f:D→D}(xs:List D):aw (xs.map f)=aw xs:=by rw[bf,bf,aG]
theorem fU(p:Lp)(b:Nat)(hk:p.kind≤9):aw (p.rowsD b)=p.nr:=(B0 _).trans (ER p b hk)
theorem dw{p:D×D}{r:Ds}(h:aR (p::r) k=none):di p.1 k=false∧aR r k=none:=by
 have h:cond (di p.1 k) (some p.2) (aR r k)=none:=h
 generalize di p.1 k=b at h ⊢
 induction b using Bool.casesOn with
 |true=>exact nsK h.symm
 |false=>exact⟨rfl,h⟩
theorem iJ(es:Ds):aR es k=none→d4 es k d=es++[(dp k,d)]:=by
 induction es with
 |nil=>exact λ _=>rfl
 |cons p r ih=>exact λ h=>(ae (λ b=>cond b _ _) (dw h).1).trans (ae (p::·) (ih (dw h).2))
theorem eQ{fs:Ds}(es:Ds):aR es k=none→aR (es++fs) k=aR fs k:=by
 induction es with
 |nil=>exact λ _=>rfl
 |cons p r ih=>exact λ h=>(ae (λ b=>cond b _ _) (dw h).1).trans (ih (dw h).2)
theorem kD{b:Int}(h:a≠b):aR [(.int a,d)] (.inl b)=none:=ae (λ b=>cond b (some d) none) ((dm a b).trans (bB h))
theorem F8:aR [(.int a,d)] (.inl a)=some d:=ae (λ b=>cond b (some d) none) ((dm a a).trans (bI rfl))
noncomputable def Ip(all:D):Loc:=[(S "parsed",all),(S "flat",.ob 0)]
noncomputable def mj(all:D)(ln:Int)(ss:D):Loc:=[(S "parsed",all),(S "flat",.ob 0),(S "line",.int ln),(S "statements",ss)]
theorem pU(p:Lp):3≤p.nr∧p.nr≤7:=lF _
theorem JL{a b:Nat}(h:3≤b):Int.ofNat a≠Int.ofNat (a+b):=λ e=>absurd (Int.ofNat.inj e) (aL (Nat.lt_add_of_pos_right (ao (by decide) h)))
section
variable(n:Nat)(all:D)
theorem xi{p:Lp}{ds rows:List D}{places:Ds}{loc:Loc}(hl:gC true (bj 42).ns 4 (jy (bZ (bj 42).body 1)) p.lineD loc=some (mj all p.ln (.lst p.srcD)))(hk:p.kind≤9)(hn:aR places (.inl p.ln)=none)(hr:aw rows≤100)(hp:aw places≤100)(k:Loc→St→aD):af (mh (ay aP (n+4)) 39 (bj 42) 1 (p.lineD::ds) loc (dZ rows places) k)=af (mh (ay aP (n+4)) 39 (bj 42) 1 ds (mj all p.ln (.lst p.srcD)) (dZ (rows++p.rowsD (aw rows)) (places++[(.int p.ln,.int (Int.ofNat (aw rows)))])) k):=by
 have e:aw (rows++p.rowsD (aw rows))=aw rows+p.nr:=(cz ..).trans (ae _ (fU p _ hk))
 refine cM hl (GU (n+4) rows places all p.ln p.srcD (rows++p.rowsD (aw rows)) _ (aw rows) _ rfl (cT (ad hr (by decide))) (cT (ad hp (by decide))) (iJ _ hn) (uN (x6 n p rows hk (ad hr (by decide))) _) ((eQ _ hn).trans F8) e (cT (e▸ad (cb hr (pU p).2) (by decide))) ?_) k
 exact(dm _ _).trans (bB (JL (pU p).1))
theorem N6(a:Int)(s:D)(p:Lp):gC true (bj 42).ns 4 (jy (bZ (bj 42).body 1)) p.lineD (mj all a s)=some (mj all p.ln (.lst p.srcD)):=by kernel_rfl
theorem Ll(p:Lp):gC true (bj 42).ns 4 (jy (bZ (bj 42).body 1)) p.lineD (Ip all)=some (mj all p.ln (.lst p.srcD)):=by kernel_rfl
theorem m9{a x m:Nat}(hx:x≤7)(h:a+7*(m+1)≤100):(a+x)+7*m≤100:=by
 rw[cI,Nat.add_comm x]
 exact ad (aO (aO hx _) a) h
theorem GS(L:List Lp):∀{rows:List D} {places:Ds} (a:Int) (s:D),(∀p∈L,p.kind≤9)→(∀p∈L,aR places (.inl p.ln)=none)→(L.map (·.ln)).Nodup→aw rows+7*L.length≤100→aw places+7*L.length≤100→
  ∃a' s',∀k,af (mh (ay aP (n+4)) 39 (bj 42) 1 (L.map Lp.lineD) (mj all a s) (dZ rows places) k)=af (k (mj all a' s') (dZ (rows++e9 (aw rows) L) (places++dX (aw rows) L))):=by
 induction L with
 |nil=>exact λ {rows places} a s _ _ _ _ _=>⟨a,s,λ k=>by
  show af (k _ (dZ rows places))=af (k _ (dZ (rows++[]) (places++[])))
  rw[aH,aH]⟩
 |cons p L ih=>
  intro rows places a s hk hn hd hr hp
  have hkp:=hk p (aF ..)
  have hnp:=hn p (aF ..)
  have hd:=bF.mp hd
  have e:aw (rows++p.rowsD (aw rows))=aw rows+p.nr:=(cz ..).trans (ae _ (fU p _ hkp))
  have ep:aw (places++[(D.int p.ln,D.int (Int.ofNat (aw rows)))])=aw places+1:=cz ..
  have t:=ih (rows:=rows++p.rowsD (aw rows)) (places:=places++[(D.int p.ln,D.int (Int.ofNat (aw rows)))]) p.ln (.lst p.srcD) (λ q hq=>hk q (aK _ hq)) (λ q hq=>(eQ _ (hn q (aK _ hq))).trans (kD λ e=>hd.1 (aS.mpr ⟨q,hq,e.symm⟩))) hd.2 (e▸m9 (pU p).2 hr) (ep▸m9 (by decide) hp)
  rw[e,cf,cf]at t
  obtain⟨a',s',h⟩:=t
  exact⟨a',s',λ k=>(xi n all (N6 all a s p) hkp hnp (ad (aB _ _) hr) (ad (aB _ _) hp) k).trans (h k)⟩
end
end
section
open PySem.Spec
variable(n:Nat)(pairs loops:List (D×D))(wh fo:List D)(places:List (D×D))(i:Nat)(ln:Int)(a b c:D)(j:Nat)(l2:List (D×D))(w:PySem.Str)(rest:List D)(k:Mine.Loc→Mine.St→aD)
noncomputable def k9(pairs loops:List (D×D))(wh fo:List D)(places:List (D×D)):St:=⟨[(9,.list []),(8,.list fo),(7,.list wh),(6,.dict []),(5,.dict loops),(4,.dict pairs),(3,.list []),(2,.dict places),(0,.inst 213 [(S "rows",.ob 1),(S "places",.ob 2),(S "data",.ob 3),(S "pairs",.ob 4),(S "loops",.ob 5),(S "fns",.ob 6)])],10⟩
noncomputable def Iq(i:Int)(r:D):Loc:=[(S "flat",.ob 0),(S "heads",.ob 9),(S "fors",.ob 8),(S "whiles",.ob 7),(S "at",.int i),(S "pair",r)]
noncomputable def kH(i:Int)(r a b c:D):Loc:=[(S "flat",.ob 0),(S "heads",.ob 9),(S "fors",.ob 8),(S "whiles",.ob 7),(S "at",.int i),(S "pair",r),(S "line",a),(S "statement",b),(S "word",c)]
theorem vx(p1 p2:List (D×D))(hs:small pairs=true)(hp1:d4 pairs (.inl (Int.ofNat j)) (.int (Int.ofNat i))=p1)(hs1:small p1=true)(hp2:d4 p1 (.inl (Int.ofNat i)) (.int (Int.ofNat j))=p2):ay aP (n+1) 252 [.ob 0,.ob 7,.int (Int.ofNat i)] (k9 pairs loops [.int (Int.ofNat j)] fo places)=some (D.none,(k9 p2 loops [] fo places)):=bw (f:=bj 40) (oV (s:=au 3 (gv (D.none) ({σ:=[(9,aY.list []),(8,aY.list fo),(7,aY.list []),(6,aY.dict []),(5,aY.dict loops),(4,aY.dict p1),(3,aY.list []),(2,aY.dict places),(0,aY.inst 213 [(S "rows",D.ob 1),(S "places",D.ob 2),(S "data",D.ob 3),(S "pairs",D.ob 4),(S "loops",D.ob 5),(S "fns",D.ob 6)])],next:=10})::gv (D.none) (k9 p2 loops [] fo places)::[])) (kr {σ:=[(9,aY.list []),(8,aY.list fo),(7,aY.list []),(6,aY.dict []),(5,aY.dict loops),(4,aY.dict pairs),(3,aY.list []),(2,aY.dict places),(0,aY.inst 213 [(S "rows",D.ob 1),(S "places",D.ob 2),(S "data",D.ob 3),(S "pairs",D.ob 4),(S "loops",D.ob 5),(S "fns",D.ob 6)])],next:=10} 4 (D.int (Int.ofNat j)) (D.int (Int.ofNat i)) (by kernel_rfl) (by kernel_rfl) hs hp1) (kr {σ:=[(9,aY.list []),(8,aY.list fo),(7,aY.list []),(6,aY.dict []),(5,aY.dict loops),(4,aY.dict p1),(3,aY.list []),(2,aY.dict places),(0,aY.inst 213 [(S "rows",D.ob 1),(S "places",D.ob 2),(S "data",D.ob 3),(S "pairs",D.ob 4),(S "loops",D.ob 5),(S "fns",D.ob 6)])],next:=10} 4 (D.int (Int.ofNat i)) (D.int (Int.ofNat j)) (by kernel_rfl) (by kernel_rfl) hs1 hp2))
theorem vW(hs:small loops=true)(hp:d4 loops (.inl (Int.ofNat j)) (.tup [.int (Int.ofNat i),.int 0])=l2):ay aP (n+1) 259 [.ob 0,.ob 8,.int (Int.ofNat i),.int 1] (k9 pairs loops wh [.int (Int.ofNat j)] places)=some (D.none,(k9 pairs l2 wh [] places)):=bw (f:=bj 41) (rK (s:=au 4 (gv (D.none) (k9 pairs l2 wh [] places)::[])) (kr {σ:=[(9,aY.list []),(8,aY.list []),(7,aY.list wh),(6,aY.dict []),(5,aY.dict loops),(4,aY.dict pairs),(3,aY.list []),(2,aY.dict places),(0,aY.inst 213 [(S "rows",D.ob 1),(S "places",D.ob 2),(S "data",D.ob 3),(S "pairs",D.ob 4),(S "loops",D.ob 5),(S "fns",D.ob 6)])],next:=10} 5 (D.int (Int.ofNat j)) (D.tup [D.int (Int.ofNat i),D.int (0)]) (by kernel_rfl) (by kernel_rfl) hs hp))
theorem gaA(e0:gw (.str w) (.str (S "DATA"))=some false)(e1:gw (.str w) (.str (S "WHILE"))=some false)(e2:gw (.str w) (.str (S "WEND"))=some false)(e3:gw (.str w) (.str (S "DEFLINES"))=some false)(e4:gw (.str w) (.str (S "FNEND"))=some false)(e5:gw (.str w) (.str (S "FOR"))=some false)(e6:gw (.str w) (.str (S "NEXT"))=some false)(k:Mine.Loc→Mine.St→aD):af ((br (ec aP (ay aP n) 39 (bj 39).ns) (eC (bZ (bj 39).body 1)) (Iq (Int.ofNat i) (.tup [.int ln,.tup (.str w::rest)])) (k9 pairs loops wh fo places) k))=af (k [(S "flat",D.ob 0),(S "heads",D.ob 9),(S "fors",D.ob 8),(S "whiles",D.ob 7),(S "at",D.int (Int.ofNat i)),(S "pair",D.tup [D.int ln,D.tup (D.str w::rest)]),(S "line",D.int ln),(S "statement",D.tup (D.str w::rest)),(S "word",D.str w)] (k9 pairs loops wh fo places)):=(let s0:St:=k9 pairs loops wh fo places;(P8 (s:=au 1 (gv (D.bool false) s0::gv (D.bool false) s0::gv (D.bool false) s0::gv (D.bool false) s0::gv (D.bool false) s0::gv (D.bool false) s0::gv (D.bool false) s0::[])) (dk s0 w (S "DATA") false e0) (dk s0 w (S "WHILE") false e1) (dk s0 w (S "WEND") false e2) (dk s0 w (S "DEFLINES") false e3) (dk s0 w (S "FNEND") false e4) (dk s0 w (S "FOR") false e5) (dk s0 w (S "NEXT") false e6)))
theorem gaB(e0:gw (.str w) (.str (S "DATA"))=some false)(e1:gw (.str w) (.str (S "WHILE"))=some false)(e2:gw (.str w) (.str (S "WEND"))=some false)(e3:gw (.str w) (.str (S "DEFLINES"))=some false)(e4:gw (.str w) (.str (S "FNEND"))=some false)(e5:gw (.str w) (.str (S "FOR"))=some false)(e6:gw (.str w) (.str (S "NEXT"))=some false)(k:Mine.Loc→Mine.St→aD):af ((br (ec aP (ay aP n) 39 (bj 39).ns) (eC (bZ (bj 39).body 1)) (kH (Int.ofNat i) (.tup [.int ln,.tup (.str w::rest)]) a b c) (k9 pairs loops wh fo places) k))=af (k [(S "flat",D.ob 0),(S "heads",D.ob 9),(S "fors",D.ob 8),(S "whiles",D.ob 7),(S "at",D.int (Int.ofNat i)),(S "pair",D.tup [D.int ln,D.tup (D.str w::rest)]),(S "line",D.int ln),(S "statement",D.tup (D.str w::rest)),(S "word",D.str w)] (k9 pairs loops wh fo places)):=(let s0:St:=k9 pairs loops wh fo places;(P8 (s:=au 1 (gv (D.bool false) s0::gv (D.bool false) s0::gv (D.bool false) s0::gv (D.bool false) s0::gv (D.bool false) s0::gv (D.bool false) s0::gv (D.bool false) s0::[])) (dk s0 w (S "DATA") false e0) (dk s0 w (S "WHILE") false e1) (dk s0 w (S "WEND") false e2) (dk s0 w (S "DEFLINES") false e3) (dk s0 w (S "FNEND") false e4) (dk s0 w (S "FOR") false e5) (dk s0 w (S "NEXT") false e6)))
theorem PF:af ((br (ec aP (ay aP n) 39 (bj 39).ns) (eC (bZ (bj 39).body 1)) (kH (Int.ofNat i) (.tup [.int ln,.tup (.str (S "WHILE")::rest)]) a b c) (k9 pairs loops [] fo places) k))=af (k [(S "flat",D.ob 0),(S "heads",D.ob 9),(S "fors",D.ob 8),(S "whiles",D.ob 7),(S "at",D.int (Int.ofNat i)),(S "pair",D.tup [D.int ln,D.tup (D.str (S "WHILE")::rest)]),(S "line",D.int ln),(S "statement",D.tup (D.str (S "WHILE")::rest)),(S "word",D.str (S "WHILE"))] (k9 pairs loops [D.int (Int.ofNat i)] fo places)):=(D0 (s:=au 4 []))
theorem PG(j:Nat)(p1 p2:List (D×D))(hs:small pairs=true)(hp1:d4 pairs (.inl (Int.ofNat j)) (.int (Int.ofNat i))=p1)(hs1:small p1=true)(hp2:d4 p1 (.inl (Int.ofNat i)) (.int (Int.ofNat j))=p2)(k:Mine.Loc→Mine.St→aD):af ((br (ec aP (ay aP (n+1)) 39 (bj 39).ns) (eC (bZ (bj 39).body 1)) (kH (Int.ofNat i) (.tup [.int ln,.tup (.str (S "WEND")::rest)]) a b c) (k9 pairs loops [.int (Int.ofNat j)] fo places) k))=af (k [(S "flat",D.ob 0),(S "heads",D.ob 9),(S "fors",D.ob 8),(S "whiles",D.ob 7),(S "at",D.int (Int.ofNat i)),(S "pair",D.tup [D.int ln,D.tup (D.str (S "WEND")::rest)]),(S "line",D.int ln),(S "statement",D.tup (D.str (S "WEND")::rest)),(S "word",D.str (S "WEND"))] (k9 p2 loops [] fo places)):=(fK (s:=au 4 (gv (D.none) (k9 p2 loops [] fo places)::[])) (vx n pairs loops fo places i j p1 p2 hs hp1 hs1 hp2))
theorem PJ:af ((br (ec aP (ay aP n) 39 (bj 39).ns) (eC (bZ (bj 39).body 1)) (kH (Int.ofNat i) (.tup [.int ln,.tup (.str (S "FOR")::rest)]) a b c) (k9 pairs loops wh [] places) k))=af (k [(S "flat",D.ob 0),(S "heads",D.ob 9),(S "fors",D.ob 8),(S "whiles",D.ob 7),(S "at",D.int (Int.ofNat i)),(S "pair",D.tup [D.int ln,D.tup (D.str (S "FOR")::rest)]),(S "line",D.int ln),(S "statement",D.tup (D.str (S "FOR")::rest)),(S "word",D.str (S "FOR"))] (k9 pairs loops wh [D.int (Int.ofNat i)] places)):=(D0 (s:=au 8 []))
theorem PH(hs:small loops=true)(hp:d4 loops (.inl (Int.ofNat j)) (.tup [.int (Int.ofNat i),.int 0])=l2)(k:Mine.Loc→Mine.St→aD):af ((br (ec aP (ay aP (n+1)) 39 (bj 39).ns) (eC (bZ (bj 39).body 1)) (kH (Int.ofNat i) (.tup [.int ln,.tup [.str (S "NEXT"),.lst [.str (S "C")]]]) a b c) (k9 pairs loops wh [.int (Int.ofNat j)] places) k))=af (k [(S "flat",D.ob 0),(S "heads",D.ob 9),(S "fors",D.ob 8),(S "whiles",D.ob 7),(S "at",D.int (Int.ofNat i)),(S "pair",D.tup [D.int ln,D.tup [D.str (S "NEXT"),D.lst [D.str (S "C")]]]),(S "line",D.int ln),(S "statement",D.tup [D.str (S "NEXT"),D.lst [D.str (S "C")]]),(S "word",D.str (S "NEXT"))] (k9 pairs l2 wh [] places)):=(fK (s:=au 11 (gv (D.none) (k9 pairs l2 wh [] places)::[])) (vW n pairs loops wh places i j l2 hs hp))
end
section
open PySem.Spec
variable{w:Str}
noncomputable def HW(w x:Str):Bool:=(gw (.str w) (.str x)).elim false not
noncomputable def O7(w:Str):Bool:=HW w (S "DATA")&&(HW w (S "WHILE")&&(HW w (S "WEND")&&(HW w (S "DEFLINES")&&(HW w (S "FNEND")&&(HW w (S "FOR")&&HW w (S "NEXT"))))))
theorem jU{x:Str}(h:HW w x=true):gw (.str w) (.str x)=some false:=tA h
noncomputable def ju(n i:Nat)(rs:List D)(p l:Ds)(wh fo:List D)(p' l':Ds)(wh' fo':List D):Prop:=∀(places:Ds) (i0:Int) (r a b c:D),∃loc',∀k,af (mh (ay aP (n+1)) 39 (bj 39) 1 (eF i rs) (kH i0 r a b c) (k9 p l wh fo places) k)=af (k loc' (k9 p' l' wh' fo' places))
section
variable{n i j:Nat}{ln:Int}{rest rs:List D}{p l p1 l1 p' l':Ds}{wh fo wh1 fo1 wh' fo':List D}
theorem ju.nil:ju n i [] p l wh fo p l wh fo:=λ _ _ _ _ _ _=>⟨_,λ _=>rfl⟩
theorem ju.step(h:∀places a b c k,af (br (ec aP (ay aP (n+1)) 39 (bj 39).ns) (eC (bZ (bj 39).body 1)) (kH (Int.ofNat i) (cw ln (.tup (.str w::rest))) a b c) (k9 p l wh fo places) k)=af (k (kH (Int.ofNat i) (cw ln (.tup (.str w::rest))) (.int ln) (.tup (.str w::rest)) (.str w)) (k9 p1 l1 wh1 fo1 places)))(t:ju n (i+1) rs p1 l1 wh1 fo1 p' l' wh' fo'):ju n i (cw ln (.tup (.str w::rest))::rs) p l wh fo p' l' wh' fo':=λ places i0 r a b c=>
 (t places (Int.ofNat i) (cw ln (.tup (.str w::rest))) (.int ln) (.tup (.str w::rest)) (.str w)).elim λ loc' h2=>⟨loc',λ k=>(cM (z1:=kH (Int.ofNat i) (cw ln (.tup (.str w::rest))) a b c) (by kernel_rfl) (h places a b c) k).trans (h2 k)⟩
theorem Ba{T:Prop}(hw:O7 w=true)(h:gw (.str w) (.str (S "DATA"))=some false→gw (.str w) (.str (S "WHILE"))=some false→gw (.str w) (.str (S "WEND"))=some false→gw (.str w) (.str (S "DEFLINES"))=some false→gw (.str w) (.str (S "FNEND"))=some false→gw (.str w) (.str (S "FOR"))=some false→gw (.str w) (.str (S "NEXT"))=some false→T):T:=by
 have h0:=aE.mp hw
 have h1:=aE.mp h0.2
 have h2:=aE.mp h1.2
 have h3:=aE.mp h2.2
 have h4:=aE.mp h3.2
 have h5:=aE.mp h4.2
 exact h (jU h0.1) (jU h1.1) (jU h2.1) (jU h3.1) (jU h4.1) (jU h5.1) (jU h5.2)
theorem ju.pl(hw:O7 w=true)(t:ju n (i+1) rs p l wh fo p' l' wh' fo'):ju n i (cw ln (.tup (.str w::rest))::rs) p l wh fo p' l' wh' fo':=
 Ba hw λ e0 e1 e2 e3 e4 e5 e6=>.step (λ places a b c=>gaB (n+1) p l wh fo places i ln a b c w rest e0 e1 e2 e3 e4 e5 e6) t
theorem ju.wi(t:ju n (i+1) rs p l [.int (Int.ofNat i)] fo p' l' wh' fo'):ju n i (cw ln (.tup (.str (S "WHILE")::rest))::rs) p l [] fo p' l' wh' fo':= .step (λ places a b c=>PF (n+1) p l fo places i ln a b c rest) t
theorem ju.we{p2:Ds}(hs1:small p=true)(hp1:d4 p (.inl (Int.ofNat j)) (.int (Int.ofNat i))=p1)(hs2:small p1=true)(hp2:d4 p1 (.inl (Int.ofNat i)) (.int (Int.ofNat j))=p2)(t:ju n (i+1) rs p2 l [] fo p' l' wh' fo'):ju n i (cw ln (.tup (.str (S "WEND")::rest))::rs) p l [.int (Int.ofNat j)] fo p' l' wh' fo':= .step (λ places a b c=>PG n p l fo places i ln a b c rest j p1 p2 hs1 hp1 hs2 hp2) t
theorem ju.fr(t:ju n (i+1) rs p l wh [.int (Int.ofNat i)] p' l' wh' fo'):ju n i (cw ln (.tup (.str (S "FOR")::rest))::rs) p l wh [] p' l' wh' fo':= .step (λ places a b c=>PJ (n+1) p l wh places i ln a b c rest) t
theorem ju.ne(hs:small l=true)(hp:d4 l (.inl (Int.ofNat j)) (.tup [.int (Int.ofNat i),.int 0])=l1)(t:ju n (i+1) rs p l1 wh [] p' l' wh' fo'):ju n i (cw ln (.tup [.str (S "NEXT"),.lst [.str (S "C")]])::rs) p l wh [.int (Int.ofNat j)] p' l' wh' fo':= .step (λ places a b c=>PH n p l wh places i ln a b c j l1 hs hp) t
end
noncomputable def EP(rows:List D)(pairs loops:Ds)(places:Ds):St:=⟨(1,.list rows)::(k9 pairs loops [] [] places).σ,10⟩
noncomputable def Nw(rows:List D)(loc:Loc)(st:St):aD:= .val .none (st.back 1 (.list rows))
theorem ti(run:ee)(rows:List D)(places:Ds):af (zq aP run (bj 39) [.ob 0] (dZ rows places))=af (mh run 39 (bj 39) 1 (eF 0 rows) [(S "flat",.ob 0),(S "heads",.ob 9),(S "fors",.ob 8),(S "whiles",.ob 7)] (k9 [] [] [] [] places) (Nw rows)):=by kernel_rfl
theorem zf{n:Nat}{ln:Int}{rest rs:List D}{pairs loops:Ds}(hw:O7 w=true)(h:ju n 1 rs [] [] [] [] pairs loops [] [])(places:Ds):ay aP (n+2) 245 [.ob 0] (dZ (cw ln (.tup (.str w::rest))::rs) places)=some (.none,EP (cw ln (.tup (.str w::rest))::rs) pairs loops places):=by
 refine bw (f:=bj 39) ((ti ..).trans ?_)
 obtain⟨loc',h2⟩:=h places (Int.ofNat 0) (cw ln (.tup (.str w::rest))) (.int ln) (.tup (.str w::rest)) (.str w)
 refine Ba hw λ e0 e1 e2 e3 e4 e5 e6=>(cM (z1:=Iq (Int.ofNat 0) (cw ln (.tup (.str w::rest)))) (by kernel_rfl) (gaA (n+1) [] [] [] [] places 0 ln w rest e0 e1 e2 e3 e4 e5 e6) _).trans ((h2 _).trans ?_)
 kernel_rfl
end
section
open PySem.Spec
variable{ln:Int}{r1:List D}{p:Lp}
noncomputable def eL(b c:Nat):Ds:=cond (Nat.beq c 9) [(.int (Int.ofNat (b+3)),.int (Int.ofNat (b+5))),(.int (Int.ofNat (b+5)),.int (Int.ofNat (b+3)))] []
noncomputable def gi(b c:Nat):Ds:=cond (Nat.beq c 7) [(.int (Int.ofNat (b+3)),.tup [.int (Int.ofNat (b+4)),.int 0])] []
noncomputable def dz:Nat→List Lp→Ds
 |_,[]=>[]
 |b,p::r=>eL b p.kind++dz (b+p.nr) r
noncomputable def fF:Nat→List Lp→Ds
 |_,[]=>[]
 |b,p::r=>gi b p.kind++fF (b+p.nr) r
noncomputable def mO(es:Ds)(b:Nat):Prop:=∀j,b≤j→aR es (.inl (Int.ofNat j))=none
section
variable{es fs P l P' l':Ds}{a b c n:Nat}{d:D}{rs:List D}
theorem mO.mono(h:mO es b)(hc:b≤c):mO es c:=λ j hj=>h j (ad hc hj)
theorem mO.app(h:mO es b)(h':mO fs b):mO (es++fs) b:=λ j hj=>(eQ es (h j hj)).trans (h' j hj)
theorem mO.one(h:a<b):mO [(.int (Int.ofNat a),d)] b:=λ _ hj=>kD λ e=>absurd (Int.ofNat.inj e) (aL (ao h hj))
theorem mO.new(h:mO es b)(k:Nat):aR es (.inl (Int.ofNat (b+k)))=none:=h _ (aB _ _)
theorem Li{a k:Nat}(h:Nat.blt a k=true):b+a<b+k:=Nat.add_lt_add_left (bp.mp h) b
theorem n0(h:mO P b):mO (P++eL b c) (b+yi c):=by
 refine(h.mono (aB _ _)).app ?_
 unfold eL
 induction e:Nat.beq c 9 using Bool.casesOn with
 |false=>exact λ _ _=>rfl
 |true=>
  obtain rfl:=Nat.eq_of_beq_eq_true e
  exact mO.app (es:=[_]) (.one (Li rfl)) (.one (Li rfl))
theorem s2(h:mO P b):mO (P++gi b c) (b+yi c):=by
 refine(h.mono (aB _ _)).app ?_
 unfold gi
 induction e:Nat.beq c 7 using Bool.casesOn with
 |false=>exact λ _ _=>rfl
 |true=>
  obtain rfl:=Nat.eq_of_beq_eq_true e
  exact .one (Li rfl)
theorem qd:aw (eL b c)≤7:=by
 unfold eL
 induction Nat.beq c 9 using Bool.casesOn<;>exact bu rfl
theorem qe:aw (gi b c)≤7:=by
 unfold gi
 induction Nat.beq c 7 using Bool.casesOn<;>exact bu rfl
theorem gt{i:Nat}(h:ju n i rs (P++[]) (l++[]) [] [] P' l' [] []):ju n i rs P l [] [] P' l' [] []:=aH l▸aH P▸h
theorem GF(hl:mO l b)(sl:aw l≤100)(h:ju n (b+5) rs (P++[]) (l++gi b 7) [] [] P' l' [] []):ju n (b+3) (cw ln (.tup (.str (S "FOR")::r1))::cw ln (.tup [.str (S "NEXT"),.lst [.str (S "C")]])::rs) P l [] [] P' l' [] []:=
 .fr (.ne (cT (ad sl (by decide))) (iJ _ (hl.new 3)) (aH P▸h))
theorem y6{r2 r3:List D}(hP:mO P b)(sP:aw P≤100)(h:ju n (b+6) rs (P++eL b 9) (l++[]) [] [] P' l' [] []):ju n (b+3) (cw ln (.tup (.str (S "WHILE")::r1))::cw ln (.tup (.str (S "LET")::r2))::cw ln (.tup (.str (S "WEND")::r3))::rs) P l [] [] P' l' [] []:=by
 refine .wi (.pl rfl (.we (cT (ad sP (by decide))) (iJ _ (hP.new 3)) (cT (cz P _▸ad (eY sP 1) (by decide))) (iJ _ ((eQ _ (hP.new 5)).trans (kD λ e=>?_))) ?_))
 ·exact absurd (Nat.add_left_cancel (Int.ofNat.inj e)) (by decide)
 ·rw[cf]
  exact aH l▸h
theorem CG(p:Lp)(c:Nat)(hc:c≤9)(hP:mO P b)(hl:mO l b)(sP:aw P≤100)(sl:aw l≤100)(h:ju n (b+yi c) rs (P++eL b c) (l++gi b c) [] [] P' l' [] []):ju n (b+3) ((p.tailK b c).map (cw p.ln)++rs) P l [] [] P' l' [] []:=by
 rcases Eg c hc with rfl|rfl|rfl|rfl|rfl|rfl|rfl|rfl|rfl|rfl
 ·exact gt h
 ·exact .pl rfl (gt h)
 ·exact .pl rfl (.pl rfl (.pl rfl (.pl rfl (gt h))))
 ·exact .pl rfl (gt h)
 ·exact .pl rfl (gt h)
 ·exact .pl rfl (gt h)
 ·exact .pl rfl (.pl rfl (gt h))
 ·exact GF hl sl h
 ·exact .pl rfl (gt h)
 ·exact y6 hP sP h
theorem tc(hk:p.kind≤9)(hP:mO P b)(hl:mO l b)(sP:aw P≤100)(sl:aw l≤100)(h:ju n (b+p.nr) rs (P++eL b p.kind) (l++gi b p.kind) [] [] P' l' [] []):ju n (b+1) (cw p.ln (.tup [.str (S "REM"),.str p.w])::cw p.ln (jx p.nm p.addT)::((p.tailD b).map (cw p.ln)++rs)) P l [] [] P' l' [] []:=
 .pl rfl (.pl rfl (CG p p.kind hk hP hl sP sl h))
theorem y7(L:List Lp):∀{b:Nat} {P l:Ds},(∀p∈L,p.kind≤9)→mO P b→mO l b→aw P+7*L.length≤100→aw l+7*L.length≤100→ju n b (e9 b L) P l [] [] (P++dz b L) (l++fF b L) [] []:=by
 induction L with
 |nil=>
  intro b P l _ _ _ _ _
  show ju n b [] P l [] [] (P++[]) (l++[]) [] []
  rw[aH,aH]
  exact .nil
 |cons p L ih=>
  intro b P l hk hP hl sP sl
  have t:=ih (b:=b+p.nr) (P:=P++eL b p.kind) (l:=l++gi b p.kind) (λ q hq=>hk q (aK _ hq)) (n0 hP) (s2 hl) (cz P _▸m9 qd sP) (cz l _▸m9 qe sl)
  rw[cf,cf]at t
  exact .pl rfl (tc (hk p (aF ..)) hP hl (ad (aB _ _) sP) (ad (aB _ _) sl) t)
theorem CF{L:List Lp}(hk:∀q∈p::L,q.kind≤9)(hl:L.length≤13):ju n 1 (cw p.ln (.tup [.str (S "REM"),.str p.w])::cw p.ln (jx p.nm p.addT)::((p.tailD 0).map (cw p.ln)++e9 (0+p.nr) L)) [] [] [] [] (dz 0 (p::L)) (fF 0 (p::L)) [] []:=by
 have k0:mO [] 0:=λ j _=>rfl
 have h7 {x:Nat} (h:x≤7):x+7*L.length≤100:=ad (cb h (Nat.mul_le_mul_left 7 hl)) (by decide)
 exact tc (b:=0) (hk p (aF ..)) k0 k0 (by decide) (by decide) (y7 L (λ q hq=>hk q (aK _ hq)) (n0 (c:=p.kind) k0) (s2 (c:=p.kind) k0) (h7 qd) (h7 qe))
end
end
section
open PySem.Spec
structure t5(L:List Lp):Prop where
 ne:L≠[]
 len:L.length≤6
 nodup:(L.map (·.ln)).Nodup
 parts:∀p∈L,HN L p
theorem rp(n:Nat)(xs:List D):af (zq aP (ay aP (n+4)) (bj 42) [.lst xs] ⟨[],0⟩)=af (mh (ay aP (n+4)) 39 (bj 42) 1 xs (Ip (.lst xs)) (dZ [] []) λ loc st=>br (ec aP (ay aP (n+4)) 40 (bj 42).ns) [bZ (bj 42).body 2,bZ (bj 42).body 3] loc st λ _ st=>.val .none st):=by kernel_rfl
theorem KO(n:Nat)(all:D)(a:Int)(s:D){R:List D}{pl prs lps:Ds}(hg:ay aP (n+4) 245 [.ob 0] (dZ R pl)=some (.none,EP R prs lps pl)):af (br (ec aP (ay aP (n+4)) 40 (bj 42).ns) [bZ (bj 42).body 2,bZ (bj 42).body 3] (mj all a s) (dZ R pl) λ _ st=>.val .none st)= .val (.ob 0) (EP R prs lps pl):=
 rK (s:=gv .none (EP R prs lps pl)::[]) hg
theorem vQ(n:Nat){p:Lp}{L:List Lp}(hk:∀q∈p::L,q.kind≤9)(hl:L.length≤5)(hd:((p::L).map (·.ln)).Nodup):ay aP (n+5) 266 [.lst ((p::L).map Lp.lineD)] ⟨[],0⟩=some (.ob 0,EP (e9 0 (p::L)) (dz 0 (p::L)) (fF 0 (p::L)) (dX 0 (p::L))):=by
 have hkp:=hk p (aF ..)
 have hd:=bF.mp hd
 have h7 {x:Nat} (h:x≤7):x+7*L.length≤100:=ad (cb h (Nat.mul_le_mul_left 7 hl)) (by decide)
 have er:aw (p.rowsD 0)=0+p.nr:=(fU p 0 hkp).trans (bC _).symm
 have hg:ay aP (n+4) 245 [.ob 0] (dZ (e9 0 (p::L)) (dX 0 (p::L)))=some (.none,EP (e9 0 (p::L)) (dz 0 (p::L)) (fF 0 (p::L)) (dX 0 (p::L))):=zf (n:=n+2) rfl (CF hk (ad hl (by decide))) _
 have t:=GS n (.lst ((p::L).map Lp.lineD)) L (rows:=p.rowsD 0) (places:=[(.int p.ln,.int (Int.ofNat 0))]) p.ln (.lst p.srcD) (λ q hq=>hk q (aK _ hq)) (λ q hq=>kD λ e=>hd.1 (aS.mpr ⟨q,hq,e.symm⟩)) hd.2 (h7 (fU p 0 hkp▸(pU p).2)) (h7 (bu rfl))
 rw[er]at t
 obtain⟨a',s',h⟩:=t
 exact bw (f:=bj 42) ((rp ..).trans ((xi n _ (Ll _ p) hkp rfl (bu rfl) (bu rfl) _).trans ((h _).trans (KO n _ a' s' hg))))
noncomputable def Mt(rows:List D)(pairs loops places:Ds):St:=⟨[(14,.list []),(13,.list []),(12,.inst 452 [(S "pile",.ob 13),(S "most",.int 20),(S "failed_at",.int (-1))]),(11,.inst 646 [(S "flat",.ob 0),(S "values",.ob 10),(S "worth_of",.val (.ref 672)),(S "bits",.int 16),(S "digits",.int 9),(S "control",.ob 12),(S "notes",.ob 14)]),(10,.dict []),(1,.list rows),(9,.list []),(8,.list []),(7,.list []),(6,.dict []),(5,.dict loops),(4,.dict pairs),(3,.list []),(2,.dict places),
 (0,.inst 213 [(S "rows",.ob 1),(S "places",.ob 2),(S "data",.ob 3),(S "pairs",.ob 4),(S "loops",.ob 5),(S "fns",.ob 6)])],15⟩
theorem E1(n:Nat){prog:D}{rows:List D}{pairs loops places:Ds}(R:ay aP (n+8) 266 [prog] ⟨[],0⟩=some (.ob 0,EP rows pairs loops places))(k:Mine.Loc→St→aD):af (ec aP (ay aP (n+8)) 40 (bj 106).ns (bZ (bj 106).body 0) [(S "lines",prog),(S "most",.int 50)] ⟨[],0⟩ k)=af (k [(S "lines",prog),(S "most",.int 50),(S "run",.ob 11)] (Mt rows pairs loops places)):=
 fK (s:=gv (.ob 0) (EP rows pairs loops places)::au 1 []) R
theorem JJ{P:Pg}(p:zR P):pN 15 (Mt P.rows P.pairs P.loops P.places) (bn P false [] [] []):=
 ⟨15,bu rfl,⟨⟨_,rfl,rfl,rfl,bu rfl⟩,⟨_,rfl,rfl,rfl,bu rfl⟩,⟨_,rfl,rfl,rfl,bu rfl⟩,⟨_,rfl,rfl,rfl,bu rfl⟩,⟨_,rfl,rfl,p.rows,bu rfl⟩,⟨_,rfl,rfl,p.loops,bu rfl⟩,⟨_,rfl,rfl,p.pairs,bu rfl⟩,⟨_,rfl,rfl,p.places,bu rfl⟩,⟨_,rfl,rfl,rfl,bu rfl⟩,⟨_,rfl,rfl,rfl,bu rfl⟩,ag⟩,bu rfl,λ h=>h⟩
noncomputable def pk(L:List Lp):Pg:=⟨e9 0 L,dX 0 L,dz 0 L,fF 0 L⟩
theorem Dw(p:Lp)(b c:Nat)(hc:c≤9):mQ ((p.stK b c).map (cw p.ln)):=by
 rcases Eg c hc with rfl|rfl|rfl|rfl|rfl|rfl|rfl|rfl|rfl|rfl<;>exact rfl
theorem Du(L:List Lp):∀b,(∀p∈L,p.kind≤9)→mQ (e9 b L):=by
 induction L with
 |nil=>exact λ _ _=>rfl
 |cons p L ih=>exact λ b h=>sS (Dw p b p.kind (h p (aF ..))) (ih _ λ q hq=>h q (aK _ hq))
theorem kx{f:D→Option D}{k v:D}{r:Ds}(hx:f v=some v)(hr:jY f r=some r):jY f ((k,v)::r)=some ((k,v)::r):=by
 show(f v).bind _=_
 rw[hx]
 exact ae (Option.map _) hr
theorem v5(L:List Lp):∀b,IZ (dX b L):=by
 induction L with
 |nil=>exact λ _=>rfl
 |cons p L ih=>exact λ b=>kx rfl (ih _)
theorem zC(L:List Lp):∀b,IZ (dz b L):=by
 induction L with
 |nil=>exact λ _=>rfl
 |cons p L ih=>
  intro b
  show IZ (eL b p.kind++dz (b+p.nr) L)
  unfold eL
  induction Nat.beq p.kind 9 using Bool.casesOn with
  |false=>exact ih _
  |true=>exact kx rfl (kx rfl (ih _))
theorem zE(L:List Lp):∀b,IZ (fF b L):=by
 induction L with
 |nil=>exact λ _=>rfl
 |cons p L ih=>
  intro b
  show IZ (gi b p.kind++fF (b+p.nr) L)
  unfold gi
  induction Nat.beq p.kind 7 using Bool.casesOn with
  |false=>exact ih _
  |true=>exact kx rfl (ih _)
theorem Ib(L:List Lp)(h:∀p∈L,p.kind≤9):zR (pk L):=⟨Du L 0 h,v5 L 0,zC L 0,zE L 0⟩
end
section
open PySem.Spec
noncomputable def Kf:Expr→List Comprehension
 | .ListComp _ gs _ _=>gs
 |_=>[]
noncomputable def NM:Comprehension→Expr
 |⟨t,_,_,_⟩=>t
noncomputable def NO:Comprehension→List Expr
 |⟨_,_,i,_⟩=>i
noncomputable def NN:Comprehension→Expr
 |⟨_,i,_,_⟩=>i
noncomputable def sF:Expr:= .Constant .none 0 ⟨0,0,0,0⟩
noncomputable def gnT(e:Expr)(i:Nat):Expr:=(Kf e)[i]?.elim sF NM
noncomputable def gnN(e:Expr)(i:Nat):Expr:=(Kf e)[i]?.elim sF NN
noncomputable def PC(e:Expr)(i:Nat):List Expr:=(Kf e)[i]?.elim [] NO
noncomputable def lcT(e:Expr):Expr:=gnT e 0
noncomputable def Iu(e:Expr):List Expr:=PC e 0
noncomputable def Iv:Expr→Expr
 | .ListComp e _ _ _=>e
 |_=>sF
noncomputable def j3:Expr→cr
 | .ListComp _ _ sc _=>sc.names
 |_=>[]
noncomputable def zX(run:ee)(m:Nat)(ns:cr)(e:Expr):Loc×List D→St→(Loc×List D→St→aD)→aD:=oL (fB ((lc aP run m).t (cB ns (j3 e))) (Iu e)) ((lc aP run m).e (cB ns (j3 e)) (Iv e))
noncomputable def B3(ns:cr)(e:Expr):D→Loc→Option Loc:=gC false (cB ns (j3 e)) 4 (lcT e)
noncomputable def t9(run:ee)(m:Nat)(ns:cr)(e:Expr)(ds:List D)(loc:Loc)(st:St)(k:D→St→aD):aD:=eB (jz (B3 ns e)) (zX run m ns e) ds (dR (j3 e) loc,[]) st λ S st'=>k (.lst S.2) st'
section
variable{α:Type}{asgf:D→Loc→Option Loc}{body:Loc×List D→St→(Loc×List D→St→aD)→aD}{el:α→D}{f:α→Loc}{g:α→List D}{st:St}
theorem Gi{a x y m:Nat}(hx:x≤y)(h:a+y*(m+1)≤90000):(a+x)+y*m≤90000:=by
 rw[cI,Nat.add_comm x]
 exact ad (aO (aO hx _) a) h
inductive Qi(asgf:D→Loc→Option Loc)(body:Loc×List D→St→(Loc×List D→St→aD)→aD)(PL:Loc→Prop)(d:D)(new:List D)(loc:Loc)(acc:List D)(st:St):Prop
 |mk (loc1 loc2:Loc) (h1:asgf d loc=some loc1) (p2:PL loc2) (h2:∀k,af (body (loc1,acc) st k)=af (k (loc2,acc++new) st))
theorem nX{PL:Loc→Prop}(m:Nat)(xs:List α):(∀x∈xs,aw (g x)≤m)→∀(loc:Loc) (acc:List D),(∀x∈xs,∀loc acc,PL loc→aw acc+m≤90000→Qi asgf body PL (el x) (g x) loc acc st)→PL loc→aw acc+m*xs.length≤90000→∃loc',PL loc'∧∀k,af (eB (jz asgf) body (xs.map el) (loc,acc) st k)=af (k (loc',acc++xs.flatMap g) st):=by
 induction xs with
 |nil=>exact λ _ loc acc _ hp _=>⟨loc,hp,λ k=>ae (λ a=>af (k (loc,a) st)) (aH acc).symm⟩
 |cons x xs ih=>
  intro hg loc acc step hp hl
  obtain⟨loc1,loc2,h1,hp2,h2⟩:=step x (aF ..) loc acc hp (ad (aO (Nat.le_mul_of_pos_right m (Nat.succ_pos _)) _) hl)
  have t:=ih (λ y hy=>hg y (aK _ hy)) loc2 (acc++g x) (λ y hy=>step y (aK _ hy)) hp2 (cz acc _▸Gi (hg x (aF ..)) hl)
  rw[cf]at t
  obtain⟨loc',hp',h3⟩:=t
  exact⟨loc',hp',λ k=>(cM (ae (Option.map λ loc=>(loc,acc)) h1) h2 k).trans (h3 k)⟩
noncomputable def L4(asgf:D→Loc→Option Loc)(el:α→D)(f:α→Loc)(loc:Loc):Prop:=∀y,asgf (el y) loc=some (f y)
theorem iQ{run:ee}{m:Nat}{ns:cr}{e:Expr}{xs:List α}{loc:Loc}(hff:∀x,L4 (B3 ns e) el f (f x))(hg:∀x,aw (g x)≤1)(h0:L4 (B3 ns e) el f (dR (j3 e) loc))(step:∀x∈xs,∀acc,aw acc≤90000→∀k,af (zX run m ns e (f x,acc) st k)=af (k (f x,acc++g x) st))(hl:xs.length≤90000)(k:D→St→aD):
  af (t9 run m ns e (xs.map el) loc st k)=af (k (.lst (xs.flatMap g)) st):=
 (nX (asgf:=B3 ns e) (body:=zX run m ns e) (PL:=L4 (B3 ns e) el f) 1 xs (λ x _=>hg x) _ [] (λ x hx loc acc hp ha=>⟨f x,f x,hp x,hff x,step x hx acc (bQ ha)⟩) h0 ((bC _).trans (gm _)▸hl)).elim λ _ h=>h.2 _
end
theorem FM(st:St)(w:Str)(i:Int)(h:eA w=some i):rJ st .int [.str w]=some (.int i,st):=by
 show Option.map _ (eA w)=_
 rw[h]
 rfl
noncomputable def LV(b:Bool)(st:St):Sp:=(wc b st λ _=>.no).opt
theorem lW{ds:List D}(st:St)(h:aw ds≤90000):LV (small ds) st=some (.none,st):=ae (LV · st) (cG h (by decide))
noncomputable def MD:Stmt→Expr
 | .Return o _=>o.elim sF id
 |_=>sF
noncomputable def MR:Expr:=MD (bZ (bj 106).body 2)
end
section
open PySem.Spec
variable{a:Int}{r:Ds}
section
variable{α:Type}{xs ys:List α}{j m:Nat}{d:α}
theorem oR(h:xs[j]?=some d):(xs++ys)[j]?=some d:=(List.getElem?_append_left (cy.mp h).1).trans h
theorem zN(h:xs.length=m):(xs++ys)[m+j]?=ys[j]?:=by
 subst h
 rw[List.getElem?_append_right (aB _ _),Nat.add_sub_cancel_left]
end
theorem x5(L:List Lp):∀b,(∀p∈L,p.kind≤9)→aw (e9 b L)=bq L L.length:=by
 induction L with
 |nil=>exact λ _ _=>rfl
 |cons p L ih=>exact λ b h=>(cz ..).trans ((ae (·+_) (fU p b (h p (aF ..)))).trans (ae (p.nr+·) (ih _ λ q hq=>h q (aK _ hq))))
theorem kG{d:D}:aR ((.int a,d)::r) (.inl a)=some d:=ae (λ b=>cond b (some d) (aR r (.inl a))) ((dm a a).trans (bI rfl))
theorem qY{b:Int}{d:D}(h:a≠b):aR ((.int a,d)::r) (.inl b)=aR r (.inl b):=eQ [(.int a,d)] (kD h)
structure At3(L:List Lp)(b i:Nat)(p:Lp)(m:Nat):Prop where
 rows:∀j s,(p.stD m)[j]?=some s→(e9 b L)[bq L i+j]?=some (cw p.ln s)
 place:aR (dX b L) (.inl p.ln)=some (.int (Int.ofNat m))
 pairs:p.kind=9→aR (dz b L) (.inl (Int.ofNat (m+3)))=some (.int (Int.ofNat (m+5)))∧aR (dz b L) (.inl (Int.ofNat (m+5)))=some (.int (Int.ofNat (m+3)))
theorem at3(L:List Lp):∀(b i:Nat) (p:Lp) (m:Nat),m=b+bq L i→(∀p∈L,p.kind≤9)→(L.map (·.ln)).Nodup→L[i]?=some p→At3 L b i p m:=by
 induction L with
 |nil=>exact λ _ _ _ _ _ _ _ h=>nsK h
 |cons q L ih=>
  intro b i p m e hk hd h
  have hd:=bF.mp hd
  have hkq:=hk q (aF ..)
  induction i using Nat.casesOn with
  |zero=>
   obtain rfl:=an h
   obtain rfl:m=b:=e
   refine⟨λ j s hs=>?_,kG,λ h9=>?_⟩
   ·show(q.rowsD m++e9 (m+q.nr) L)[0+j]?=_
    rw[bC]
    exact oR ((cJ ..).trans (ae (Option.map _) hs))
   ·show aR (eL m q.kind++dz (m+q.nr) L) _=_∧aR (eL m q.kind++dz (m+q.nr) L) _=_
    rw[h9]
    exact⟨kG,(qY λ e=>absurd (Nat.add_left_cancel (Int.ofNat.inj e)) (by decide)).trans kG⟩
  |succ i=>
   have e:m=b+q.nr+bq L i:=e.trans (cI ..).symm
   obtain⟨r,pl,pr⟩:=ih (b+q.nr) i p m e (λ r hr=>hk r (aK _ hr)) hd.2 h
   have no (k:Nat):aR (dz b (q::L)) (.inl (Int.ofNat (m+k)))=aR (dz (b+q.nr) L) (.inl (Int.ofNat (m+k))):=eQ _ (n0 (P:=[]) (c:=q.kind) (b:=b) (λ _ _=>rfl) _ (e▸ad (aB _ _) (aB _ _)))
   refine⟨λ j s hs=>?_,(qY λ e=>hd.1 (aS.mpr ⟨p,List.mem_of_getElem? h,e.symm⟩)).trans pl,λ h9=>⟨(no 3).trans (pr h9).1,(no 5).trans (pr h9).2⟩⟩
   show(q.rowsD b++e9 (b+q.nr) L)[q.nr+bq L i+j]?=_
   rw[cI]
   exact(zN ((bf _).symm.trans (fU q b hkq))).trans (r j s hs)
theorem HD(L:List Lp):bq L L.length≤7*L.length:=by
 induction L with
 |nil=>exact aq _
 |cons p L ih=>exact ad (cb (pU p).2 ih) (aM (Nat.add_comm 7 (7*L.length)))
theorem L6{L:List Lp}(h:t5 L):Wd L (pk L):=by
 have hk:∀p∈L,p.kind≤9:=λ p hp=>(h.parts p hp).kind
 have hbl:bq L L.length≤100:=ad (HD L) (ad (Nat.mul_le_mul_left 7 h.len) (by decide))
 have htot:aw (pk L).rows=bq L L.length:=x5 L 0 hk
 have a3 {i:Nat} {p:Lp} (hp:L[i]?=some p):At3 L 0 i p (bq L i):=at3 L 0 i p _ (bC _).symm hk h.nodup hp
 exact⟨Ib L hk,λ i p hp j s hs=>⟨bf (pk L).rows▸(cy.mp ((a3 hp).rows j s hs)).1,htot▸hbl,p.ln,(hZ ..).trans ((a3 hp).rows j s hs)⟩,htot,hbl,λ i p hp=>(a3 hp).place,λ i p hp=>(a3 hp).pairs,λ i p hp=>h.parts p (List.mem_of_getElem? hp)⟩
theorem Pw{p:Lp}{L:List Lp}:jA (p::L) 0 0 [] [] []:=by
 have h3:=(pU p).1
 refine .row 0 0 p [] [] rfl rfl ⟨⟨λ x hx=>⟨Int.le_refl _,(by decide:(0:Int)≤3)⟩,λ x hx _=>rfl,λ g hg=>absurd hg aQ,.nil,aq _,aq _⟩,rfl,ao (by decide) h3,aq _,?_,λ _=>.first rfl rfl,λ h=>absurd h (by decide),λ h=>absurd h (by decide),λ _=>⟨rfl,rfl⟩⟩
 show uo p 0 0 [] [] p.kind
 unfold uo
 induction Nat.beq p.kind 7 using Bool.casesOn with
 |true=>rfl
 |false=>induction Nat.beq p.kind 9 using Bool.casesOn<;>rfl
noncomputable def PM:Stmt→Expr
 | .For _ i _ _ _=>i
 |_=>sF
noncomputable def KL:Stmt→Pos
 | .For _ _ _ _ p=>p
 |_=>⟨0,0,0,0⟩
theorem KB{L:List Lp}(n:Nat)(h:t5 L):∃r,LL L (pk L) r∧Ov aP (n+12) 15 643 [.ob 11,.int 0,.int 50] (Mt (e9 0 L) (dz 0 L) (fF 0 L) (dX 0 L)) r:=by
 have i0:jA L 0 0 [] [] []:=by
  have:=h.ne
  induction L using List.casesOn with
  |nil=>exact absurd rfl this
  |cons p L=>exact Pw
 obtain⟨r,hr,hg⟩:=Kz (n:=n) (L6 h) (fE 50 0 1) 0 0 false [] [] [] rfl rfl i0
 exact⟨r,hr,⟨tg,PB,PM (bZ tg.body 0),Ei,KL (bZ tg.body 0),rh,fE 50 0 1,Mt (e9 0 L) (dz 0 L) (fF 0 L) (dX 0 L),BW 0,bn (pk L) false [] [] [],by kernel_rfl,by kernel_rfl,by kernel_rfl,by kernel_rfl,by kernel_rfl,by kernel_rfl,aq _,rfl,JJ (Ib L λ p hp=>(h.parts p hp).kind),⟨λ y d hy=>hy,rfl⟩,hg⟩⟩
end
section
open PySem.Spec
variable{L:List Lp}{H:List Hn}{α:Type}
noncomputable def Gc(L:List Lp)(i:Nat):Int:=(L[i]?).elim 0 Lp.ln
noncomputable def qL(L:List Lp)(h:Hn):D:= .tup [.int (Gc L h.1),.lst [.int h.2.1,.int h.2.2.1,.int h.2.2.2]]
noncomputable def KY(a b c:Int):Prop:=(100*a+10*b+c).fdiv 100=a∧((100*a+10*b+c).fdiv 10).fmod 10=b∧(100*a+10*b+c).fmod 10=c
theorem PU:∀a:Nat,a<4→∀b:Nat,b<4→∀c:Nat,c<4→KY (Int.ofNat a) (Int.ofNat b) (Int.ofNat c):=by
 unfold KY
 decide
theorem JS{x:Int}(h:0≤x∧x≤3):∃a:Nat,x=Int.ofNat a∧a<4:=by
 obtain⟨a,rfl⟩:=Int.eq_ofNat_of_zero_le h.1
 exact⟨a,rfl,Nat.lt_succ_of_le (Int.ofNat_le.mp h.2)⟩
theorem KW{a b c:Int}(ha:0≤a∧a≤3)(hb:0≤b∧b≤3)(hc:0≤c∧c≤3):KY a b c:=by
 obtain⟨x,rfl,hx⟩:=JS ha
 obtain⟨y,rfl,hy⟩:=JS hb
 obtain⟨z,rfl,hz⟩:=JS hc
 exact PU x hx y hy z hz
theorem ig(g:eG L H):∀h∈H,OO L h:=by
 induction g with
 |nil=>exact λ h hh=>absurd hh aQ
 |one ok _=>exact λ h hh=>aC.mp hh▸ok
 |snoc _ _ ok ih=>exact λ h hh=>(ca.mp hh).elim (ih h) λ hh=>aC.mp hh▸ok
noncomputable def Kb(w:Str)(v:Int):Loc:=[(S "text",.str w),(S "value",.int v)]
noncomputable def MQ(h:Hn):Int:=100*h.2.1+10*h.2.2.1+h.2.2.2
theorem yn(n:Nat)(st:St)(acc:List D)(w:Str)(v i a b c:Int)(hw:eA w=some i)(ha:aw acc≤90000)(e1:v.fdiv 100=a)(e2:(v.fdiv 10).fmod 10=b)(e3:v.fmod 10=c)(k:Mine.Loc×List D→St→aD):
  af (zX (ay aP (n+12)) 38 (bj 106).ns MR (Kb w v,acc) st k)=af (k (Kb w v,acc++[.tup [.int i,.lst [.int a,.int b,.int c]]]) st):=by
 subst e1 e2 e3
 exact rX (s:=gv (.int i) st::au 4 (gv .none st::[])) (FM st w i hw) (lW st ha)
theorem yo(n:Nat)(lines:D)(P:Pg)(b:Bool)(l:List (D×Int))(pile notes:List D)(k:Mine.Loc→St→aD):af (br (ec aP (ay aP (n+12)) 40 (bj 106).ns) [bZ (bj 106).body 2] [(S "lines",lines),(S "most",.int 50),(S "run",.ob 11)] (bn P b l pile notes) k)=af (t9 (ay aP (n+12)) 38 (bj 106).ns MR notes [(S "lines",lines),(S "most",.int 50),(S "run",.ob 11)] ((bn P b l pile notes).drop 14) λ d st=>.val d st):=by kernel_rfl
theorem fx(f:α→D)(xs:List α):xs.flatMap (λ x=>[f x])=xs.map f:=by
 induction xs with
 |nil=>rfl
 |cons x xs ih=>exact ae (f x::·) ih
theorem Et{h:Hn}(hi:h.1<L.length)(hw:∀p∈L,eA p.w=some p.ln):eA (nz L h.1)=some (Gc L h.1):=by
 unfold nz Gc
 rw[bz hi]
 exact hw _ (List.getElem_mem hi)
theorem u4(n:Nat)(lines:D)(P:Pg)(b:Bool)(l:List (D×Int))(pile:List D)(g:eG L H)(hw:∀p∈L,eA p.w=some p.ln)(hl:H.length≤50)(k:Mine.Loc→St→aD):
  af (br (ec aP (ay aP (n+12)) 40 (bj 106).ns) [bZ (bj 106).body 2] [(S "lines",lines),(S "most",.int 50),(S "run",.ob 11)] (bn P b l pile (cF L H)) k)= .val (.lst (H.map (qL L))) ((bn P b l pile (cF L H)).drop 14):=by
 refine(yo ..).trans ((iQ (el:=Bx L) (f:=λ h=>Kb (nz L h.1) (MQ h)) (g:=λ h=>[qL L h]) (λ h x=>by kernel_rfl) (λ _=>aq _) (λ x=>by kernel_rfl) (λ h hh acc ha k=>?_) (ad hl (by decide)) _).trans (ae (λ xs=>aD.val (.lst xs) _) (fx (qL L) H)))
 have ok:=ig g h hh
 have d:=KW (ok.dig "A" (.inl rfl)) (ok.dig "B" (.inr (.inl rfl))) (ok.dig "C" (.inr (.inr rfl)))
 exact yn n _ acc _ _ _ _ _ _ (Et ok.lt hw) ha d.1 d.2.1 d.2.2 k
theorem gf{f:D→Option D}{g:α→D}(h:∀a,f (g a)=some (g a))(xs:List α):cq f (xs.map g)=some (xs.map g):=by
 induction xs with
 |nil=>rfl
 |cons x xs ih=>exact bU (h x) ih
inductive Ly(L:List Lp)(n:Nat):Prop
 |mk (H:List Hn) (st':St) (ne:H≠[]) (good:eG L H) (len:H.length≤50) (h:rO aP (n+12) 15 (bj 106) [.lst (L.map Lp.lineD),.int 50] ⟨[],0⟩ (.lst (H.map (qL L))) st') (z:frz st'.σ 12 (.lst (H.map (qL L)))=some (.lst (H.map (qL L))))
theorem C1(n:Nat)(h:t5 L):ay aP (n+5) 266 [.lst (L.map Lp.lineD)] ⟨[],0⟩=some (.ob 0,EP (e9 0 L) (dz 0 L) (fF 0 L) (dX 0 L)):=by
 obtain⟨ne,len,nodup,parts⟩:=h
 induction L using List.casesOn with
 |nil=>exact absurd rfl ne
 |cons p L=>exact vQ n (λ q hq=>(parts q hq).kind) (Nat.le_of_succ_le_succ len) nodup
theorem ym(n:Nat)(h:t5 L)(hw:∀p∈L,eA p.w=some p.ln):Ly L n:=by
 obtain⟨r,⟨b,l,pile,H,hne,hgood,hlen,hrr⟩,hg⟩:=KB n h
 refine⟨H,(bn (pk L) b l pile (cF L H)).drop 14,hne,hgood,hlen,⟨_,_,_,_,_,_,_,_,_,_,_,_,_,[(S "lines",.lst (L.map Lp.lineD)),(S "most",.int 50),(S "run",.ob 11)],Mt (e9 0 L) (dz 0 L) (fF 0 L) (dX 0 L),bn (pk L) b l pile (cF L H),r,rfl,by kernel_rfl,by kernel_rfl,by kernel_rfl,λ k=>E1 (n+4) (C1 (n+7) h) k,by kernel_rfl,?_,hrr,u4 n (.lst (L.map Lp.lineD)) (pk L) b l pile hgood hw hlen⟩,?_⟩
 ·exact .mk (i:=11) (C:=646) (fs:=[(S "flat",.ob 0),(S "values",.ob 10),(S "worth_of",.val (.ref 672)),(S "bits",.int 16),(S "digits",.int 9),(S "control",.ob 12),(S "notes",.ob 14)]) (ds:=[.int 0,.int 50]) (by kernel_rfl) (by kernel_rfl) (by kernel_rfl) (by kernel_rfl) (by kernel_rfl) (by kernel_rfl) hg
 ·exact ae (Option.map D.lst) (gf (f:=frz ((bn (pk L) b l pile (cF L H)).drop 14).σ 11) (g:=qL L) (λ _=>rfl) H)
end
section
open PySem.Spec
variable{α:Type}{x:String}
noncomputable def I9(u:String×String):D:= .tup [.str (S u.1),.str (S u.2)]
abbrev Ev:=D×List (String×String)×List Int
section
variable(p:Lp)
noncomputable def Lp.evH:List Ev:=[(jx "X" jX,[("X","set"),("A","read"),("B","read"),("C","read")],[]),(.tup [.str (S "REM"),.str p.w],[],[]),(jx p.nm p.addT,[(p.nm,"set"),(p.src,"read")],[])]
noncomputable def Lp.evK:Nat→List Ev
 |0=>[]
 |1=>[(kO p.g0,[],[p.g0])]
 |2=>[(Cz p.testT.toD [kO p.g0] [kO p.g1],[(p.src,"read")],[]),(kO p.g0,[],[p.g0]),(kO p.g1,[],[p.g1])]
 |3=>[(.tup [.str (S "ONGO"),.str (S "GOTO"),(cO.nm p.src).toD,.lst [.int p.g0,.int p.g1]],[(p.src,"read")],[p.g0,p.g1])]
 |4=>[(.tup [.str (S "GOSUB"),.int p.g0],[],[p.g0])]
 |5=>[(.tup [.str (S "ONGO"),.str (S "GOSUB"),(cO.nm p.src).toD,.lst [.int p.g0,.int p.g1]],[(p.src,"read")],[p.g0,p.g1])]
 |6=>[(Cz p.testT.toD [nF] [],[(p.src,"read")],[]),(nF,[],[])]
 |7=>[(.tup [.str (S "FOR"),.str (S "C"),.tup [.str (S "whole"),.int 0],.tup [.str (S "whole"),.int p.o3],.none],[("C","set")],[]),(.tup [.str (S "NEXT"),.lst [.str (S "C")]],[("C","read")],[])]
 |8=>[(.tup [.str (S "END")],[],[])]
 |_=>[(.tup [.str (S "WHILE"),p.testT.toD],[(p.src,"read")],[]),(jx p.src p.incT,[(p.src,"set"),(p.src,"read")],[]),(.tup [.str (S "WEND")],[],[])]
noncomputable def Lp.evs:List Ev:=p.evH++p.evK p.kind
end
noncomputable def OI(e:Ev):D:=e.1
theorem P2(n:Nat)(p:Lp)(st:St)(c:Nat)(hc:c≤9):ay aP (n+8) 84 [.lst (p.headD++p.srcK c)] st=some (.lst ((p.evH++p.evK c).map OI),st):=by
 rcases Eg c hc with rfl|rfl|rfl|rfl|rfl|rfl|rfl|rfl|rfl|rfl<;>kernel_rfl
noncomputable def o4{α:Type}(P:α→Prop):List α→Prop
 |[]=>True
 |x::r=>P x∧o4 P r
theorem o4.mem{P:α→Prop}{xs:List α}(h:o4 P xs):∀x∈xs,P x:=by
 induction xs with
 |nil=>exact λ _ h=>absurd h aQ
 |cons y ys ih=>exact λ x hx=>(aJ.mp hx).elim (λ e=>e▸h.1) (ih h.2 x)
theorem o4.app{P:α→Prop}{xs ys:List α}(h:o4 P xs)(k:o4 P ys):o4 P (xs++ys):=by
 induction xs with
 |nil=>exact k
 |cons y ys ih=>exact⟨h.1,ih h.2⟩
noncomputable def Pb(u:String×String):Prop:=(u.1= "X"∨lX u.1)∧(u.2= "set"∨u.2= "read")
structure LN(L:List Lp)(run:ee)(e:Ev):Prop where
 own:∀st,run 65 [e.1] st=some (.lst (e.2.1.map I9),st)
 goals:∀st,run 77 [e.1] st=some (.lst (e.2.2.map .int),st)
 u:o4 Pb e.2.1
 g:o4 (t6 L) e.2.2
 ul:Nat.ble e.2.1.length 4=true
 gl:Nat.ble e.2.2.length 2=true
section
variable{L:List Lp}{p:Lp}(n:Nat)
theorem uz(h:lX x):Pb (x,"set"):=⟨.inr h,.inl rfl⟩
theorem jf(h:lX x):Pb (x,"read"):=⟨.inr h,.inr rfl⟩
theorem KS(h:HN L p)(c:Nat)(hc:c≤9):o4 (LN L (ay aP (n+8))) (p.evK c):=by
 have rd:=jf h.src
 have hC:lX "C":= .inr (.inr rfl)
 rcases Eg c hc with rfl|rfl|rfl|rfl|rfl|rfl|rfl|rfl|rfl|rfl
 ·exact ag
 ·exact⟨⟨λ st=>by kernel_rfl,λ st=>by kernel_rfl,ag,⟨h.g0,ag⟩,rfl,rfl⟩,ag⟩
 ·exact⟨⟨λ st=>by kernel_rfl,λ st=>by kernel_rfl,⟨rd,ag⟩,ag,rfl,rfl⟩,⟨λ st=>by kernel_rfl,λ st=>by kernel_rfl,ag,⟨h.g0,ag⟩,rfl,rfl⟩,⟨λ st=>by kernel_rfl,λ st=>by kernel_rfl,ag,⟨h.g1,ag⟩,rfl,rfl⟩,ag⟩
 ·exact⟨⟨λ st=>by kernel_rfl,λ st=>by kernel_rfl,⟨rd,ag⟩,⟨h.g0,h.g1,ag⟩,rfl,rfl⟩,ag⟩
 ·exact⟨⟨λ st=>by kernel_rfl,λ st=>by kernel_rfl,ag,⟨h.g0,ag⟩,rfl,rfl⟩,ag⟩
 ·exact⟨⟨λ st=>by kernel_rfl,λ st=>by kernel_rfl,⟨rd,ag⟩,⟨h.g0,h.g1,ag⟩,rfl,rfl⟩,ag⟩
 ·exact⟨⟨λ st=>by kernel_rfl,λ st=>by kernel_rfl,⟨rd,ag⟩,ag,rfl,rfl⟩,⟨λ st=>by kernel_rfl,λ st=>by kernel_rfl,ag,ag,rfl,rfl⟩,ag⟩
 ·exact⟨⟨λ st=>by kernel_rfl,λ st=>by kernel_rfl,⟨uz hC,ag⟩,ag,rfl,rfl⟩,⟨λ st=>by kernel_rfl,λ st=>by kernel_rfl,⟨jf hC,ag⟩,ag,rfl,rfl⟩,ag⟩
 ·exact⟨⟨λ st=>by kernel_rfl,λ st=>by kernel_rfl,ag,ag,rfl,rfl⟩,ag⟩
 ·exact⟨⟨λ st=>by kernel_rfl,λ st=>by kernel_rfl,⟨rd,ag⟩,ag,rfl,rfl⟩,⟨λ st=>by kernel_rfl,λ st=>by kernel_rfl,⟨uz h.src,rd,ag⟩,ag,rfl,rfl⟩,⟨λ st=>by kernel_rfl,λ st=>by kernel_rfl,ag,ag,rfl,rfl⟩,ag⟩
theorem KR(h:HN L p):o4 (LN L (ay aP (n+8))) p.evs:=
 .app (xs:=p.evH) ⟨⟨λ st=>by kernel_rfl,λ st=>by kernel_rfl,⟨⟨.inl rfl,.inl rfl⟩,jf (.inl rfl),jf (.inr (.inl rfl)),jf (.inr (.inr rfl)),ag⟩,ag,rfl,rfl⟩,⟨λ st=>by kernel_rfl,λ st=>by kernel_rfl,ag,ag,rfl,rfl⟩,⟨λ st=>by kernel_rfl,λ st=>by kernel_rfl,⟨uz h.nm,jf h.src,ag⟩,ag,rfl,rfl⟩,ag⟩ (KS n h p.kind h.kind)
theorem GW(hk:p.kind≤9):p.evs.length≤6:=by
 have:∀c,c≤9→Nat.ble (p.evH++p.evK c).length 6=true:=λ c hc=>by rcases Eg c hc with rfl|rfl|rfl|rfl|rfl|rfl|rfl|rfl|rfl|rfl<;>exact rfl
 exact bu (this p.kind hk)
theorem mx{c:Nat}(h:p.kind=c){e:Ev}(he:e∈p.evK c):e∈p.evs:=by
 subst h
 exact .tail _ (.tail _ (.tail _ he))
theorem GX(h:p.sets x):∃e∈p.evs,(x,"set")∈e.2.1:=by
 rcases h with rfl|⟨h,rfl⟩|⟨h,rfl⟩
 ·exact⟨_,.tail _ (.tail _ (.head _)),.head _⟩
 ·exact⟨_,mx h (.head _),.head _⟩
 ·exact⟨_,mx h (.tail _ (.head _)),.head _⟩
theorem GY{g:Int}(h:p.goal g):∃e∈p.evs,g∈e.2.2:=by
 have two (hg:g=p.g0∨g=p.g1):g∈[p.g0,p.g1]:=hg.elim (λ e=>e▸.head _) λ e=>e▸.tail _ (.head _)
 rcases h with⟨h|h,rfl⟩|⟨h|h|h,hg⟩
 ·exact⟨_,mx h (.head _),.head _⟩
 ·exact⟨_,mx h (.head _),.head _⟩
 ·rcases hg with rfl|rfl
  ·exact⟨_,mx h (.tail _ (.head _)),.head _⟩
  ·exact⟨_,mx h (.tail _ (.tail _ (.head _))),.head _⟩
 ·exact⟨_,mx h (.head _),two hg⟩
 ·exact⟨_,mx h (.head _),two hg⟩
end
end
section
open PySem.Spec
variable{ds:List D}{j:Nat}
section
variable(st:St)(i:Nat){k:D}
theorem yx{es:List (D×D)}{kk:cv}(h:aW st.σ i=some (.dict es))(hk:dN k=some kk)(hn:aR es kk=none):mB (dF st .NotIn k (.ob i)) st=some (.bool true,st):=by
 show mB (Option.map (!·) (Option.elim ((aW st.σ i).bind oB) _ _)) st=_
 rw[h]
 show mB (((dN k).map λ k=>iy (aR es k)).map _) st=_
 rw[hk]
 exact ae (λ o=>mB (some (!iy o)) st) hn
theorem gJ{b:Bool}(h:aW st.σ i=some (.list ds))(hn:mu k ds=some b):mB (dF st .NotIn k (.ob i)) st=some (.bool !b,st):=by
 show mB (Option.map (!·) (Option.elim ((aW st.σ i).bind oB) (((aW st.σ i).bind iP).bind _) _)) st=_
 rw[h]
 exact ae (λ o=>mB (Option.map (!·) o) st) hn
end
noncomputable def NI(T:cV)(run:ee)(ev:dh)(a:D)(name:Str)(args:List Expr)(loc:Loc)(st:St)(k:D→St→aD):aD:=
 (iR st a).elim (cS (nO st a name) λ m=>de ev args loc st λ ds st=>.node (ku m st a ds) k) λ r=>
  cond (bD r.2.2 name).isSome .no (cS (T.meth r.2.1 name) λ fa=>cS (T.fn fa) λ _=>de ev args loc st λ ds st=>.node (run fa (a::ds) st) k)
theorem tB{run:ee}{ev:dh}{args:List Expr}{loc:Loc}{st:St}{mark:D}(h:aW st.σ j=some (.list ds))(hs:small ds=true)(ha:∀f,de ev args loc st f=f [mark] st)(k:D→St→aD):af (NI aP run ev (.ob j) (S "append") args loc st k)=af (k .none (st.put j (.list (ds++[mark])))):=by
 show af (Option.elim (((aW st.σ j).bind IC).map _) (cS ((aW st.σ j).bind (aY.mid (S "append"))) λ m=>de ev args loc st λ ds st=>.node (ku m st (.ob j) ds) k) _)=_
 rw[h]
 show af (de ev args loc st λ ds st=>.node (ku .append st (.ob j) ds) k)=_
 rw[ha,lH st j mark h hs]
 rfl
noncomputable def PA:Stmt→List Stmt
 | .If _ b _ _=>b
 |_=>[]
noncomputable def DE:Expr→List Expr
 | .Call _ a _ _=>a
 |_=>[]
noncomputable def KQ:Stmt→List Expr
 | .Expr e _=>DE e
 |_=>[]
noncomputable def u6:List Expr:=KQ (bZ (PA (bZ (bj 18).body 1)) 0)
noncomputable def u5(i:Nat)(key mark:D):Loc:=[(S "book",.ob i),(S "key",key),(S "mark",mark)]
section
variable{n:Nat}{st:St}{i:Nat}{key mark:D}{es:Ds}{kk:cv}(hk:dN key=some kk)
theorem sC(run:ee)(i:Nat)(key mark:D)(st:St)(f:List D→St→aD):de ((lc aP run 37).e (bj 18).ns) u6 (u5 i key mark) st f=f [mark] st:=by kernel_rfl
include hk
theorem JH(h0:aW st.σ i=some (.dict es))(hn:aR es kk=none)(hs:small es=true){es2:Ds}(he:d4 es kk (.ob st.next)=es2)(h1:aW (st.add (.list [])).σ i=some (.dict es))(h2:aW ((st.add (.list [])).put i (.dict es2)).σ i=some (.dict es2))(hl:aR es2 kk=some (.ob st.next))(h3:aW ((st.add (.list [])).put i (.dict es2)).σ st.next=some (.list []))(hm:mu mark []=some false):
  ay aP (n+1) 91 [.ob i,key,mark] st=some (.none,((st.add (.list [])).put i (.dict es2)).put st.next (.list [mark])):=by
 let s1:St:=(st.add (.list [])).put i (.dict es2)
 refine bw (f:=bj 18) (Eq.trans ?_ (tB (run:=ay aP n) (ev:=(lc aP (ay aP n) 37).e (bj 18).ns) (args:=u6) (loc:=u5 i key mark) (mark:=mark) h3 rfl (sC _ _ _ _ _) λ _ st=>.val .none st))
 exact Qa (s:=gv (.bool true) st::gv .none s1::gv (.ob st.next) s1::gv (.bool true) s1::gv (.ob st.next) s1::[]) (yx st i h0 hk hn) (kr (st.add (.list [])) i key (.ob st.next) h1 hk hs he) (fR s1 i key h2 hk hl) (gJ s1 st.next h3 hm) (fR s1 i key h2 hk hl)
theorem JG(h0:aW st.σ i=some (.dict es))(hl:aR es kk=some (.ob j))(h3:aW st.σ j=some (.list ds))(hm:mu mark ds=some false)(hz:small ds=true):ay aP (n+1) 91 [.ob i,key,mark] st=some (.none,st.put j (.list (ds++[mark]))):=by
 refine bw (f:=bj 18) (Eq.trans ?_ (tB (run:=ay aP n) (ev:=(lc aP (ay aP n) 37).e (bj 18).ns) (args:=u6) (loc:=u5 i key mark) (mark:=mark) h3 hz (sC _ _ _ _ _) λ _ st=>.val .none st))
 exact OL (s:=gv (.bool false) st::gv (.ob j) st::gv (.bool true) st::gv (.ob j) st::[]) (iN st i key h0 hk hl) (fR st i key h0 hk hl) (gJ st j h3 hm) (fR st i key h0 hk hl)
theorem JF(h0:aW st.σ i=some (.dict es))(hl:aR es kk=some (.ob j))(h3:aW st.σ j=some (.list ds))(hm:mu mark ds=some true):ay aP (n+1) 91 [.ob i,key,mark] st=some (.none,st):=
 bw (f:=bj 18) (HK (s:=gv (D.bool false) st::gv (D.ob j) st::gv (D.bool false) st::[]) (iN st i key h0 hk hl) (fR st i key h0 hk hl) (gJ st j h3 hm))
end
end
section
open PySem.Spec
variable{a:Nat}{xs:List D}{o:Option aY}
section
variable(L:List Lp)
noncomputable def Gp(k:D):Prop:=∃x,(x= "X"∨lX x)∧k= .str (S x)
noncomputable def MW(d:D):Prop:=∃p∈L,∃h,(h= "set"∨h= "read")∧d= .tup [.int p.ln,.str (S h)]
noncomputable def JU(d:D):Prop:=∃p∈L,d= .int p.ln
noncomputable def Gq:Nat→D→Prop
 |0=>Gp
 |_=>JU L
noncomputable def pv:Nat→D→Prop
 |0=>MW L
 |_=>JU L
end
inductive IU(M:D→Prop)(c:Nat)(st:St)(v:D):Prop
 |mk (j:Nat) (ds:List D) (e:v= .ob j) (h:aW st.σ j=some (.list ds)) (ne:ds≠[]) (hl:aw ds≤c) (hm:∀d∈ds,M d)
structure OC(K M:D→Prop)(c:Nat)(st:St)(es:Ds):Prop where
 hl:aw es≤c
 nd:(es.map (·.1)).Nodup
 hv:∀k v,(k,v)∈es→K k∧IU M c st v
inductive Nt(i:Nat)(st:St)(k:cv)(m:D):Prop
 |mk (es:Ds) (j:Nat) (ds:List D) (h1:aW st.σ i=some (.dict es)) (h2:aR es k=some (.ob j)) (h3:aW st.σ j=some (.list ds)) (h4:m∈ds)
structure BB(L:List Lp)(c:Nat)(st:St):Prop where
 nx:2≤st.next
 fresh:∀a,st.next≤a→aW st.σ a=none
 bk:∀i,i<2→∃es,aW st.σ i=some (.dict es)∧OC (Gq L i) (pv L i) c st es
noncomputable def IT(st st':St):Prop:=∀a k d,Nt a st k d→Nt a st' k d
theorem IT.trans{a b c:St}(h:IT a b)(g:IT b c):IT a c:=λ i k d n=>g i k d (h i k d n)
structure HS(st st':St)(i j:Nat)(m:D)(es es':Ds)(ds:List D):Prop where
 i0:aW st.σ i=some (.dict es)
 i1:aW st'.σ i=some (.dict es')
 j0:aW st.σ j=some (.list ds)∨(j=st.next∧ds=[])
 j1:aW st'.σ j=some (.list (ds++[m]))
 oth:∀a,a≠i→a≠j→aW st'.σ a=aW st.σ a
section
variable{L:List Lp}{K M:D→Prop}{st st':St}{i j c c':Nat}{m v:D}{es es':Ds}{ds:List D}{k:cv}
theorem lJ{σ:List (Nat×aY)}{b:Nat}(h:aW σ a=some (.list xs))(g:aW σ b=some (.dict es)):a≠b:=λ e=>aY.noConfusion (an (h.symm.trans (e▸g)))
theorem Gd{ys:List D}(h:o=some (.list xs))(g:o=some (.list ys)):xs=ys:=an (ae (λ o=>Option.bind o iP) (h.symm.trans g))
theorem rx{xs ys:Ds}(h:o=some (.dict xs))(g:o=some (.dict ys)):xs=ys:=an (ae (λ o=>Option.bind o oB) (h.symm.trans g))
theorem IU.more(V:IU M c st v)(h:c≤c'):IU M c' st v:=V.rec λ j ds e h1 ne hl hm=>⟨j,ds,e,h1,ne,ad hl h,hm⟩
theorem BB.more(B:BB L c st)(h:c≤c'):BB L c' st:=⟨B.nx,B.fresh,λ i hi=>(B.bk i hi).elim λ es b=>⟨es,b.1,ad b.2.hl h,b.2.nd,λ k v hk=>⟨(b.2.hv k v hk).1,(b.2.hv k v hk).2.more h⟩⟩⟩
theorem HS.list(d:HS st st' i j m es es' ds)(fr:aW st.σ st.next=none){a:Nat}{xs:List D}(h:aW st.σ a=some (.list xs)):(a=j∧xs=ds)∨aW st'.σ a=some (.list xs):=by
 by_cases e:a=j
 ·subst e
  exact .inl ⟨rfl,d.j0.elim (Gd h) λ e=>nsK (fr.symm.trans (e.1▸h))⟩
 ·exact .inr ((d.oth a (lJ h d.i0) e).trans h)
theorem HS.dict(d:HS st st' i j m es es' ds)(fr:aW st.σ st.next=none){a:Nat}{fs:Ds}(ai:a≠i)(h:aW st.σ a=some (.dict fs)):aW st'.σ a=some (.dict fs):=
 (d.oth a ai λ e=>d.j0.elim (λ g=>lJ g h e.symm) λ g=>nsK (fr.symm.trans ((e.trans g.1)▸h))).trans h
theorem IU.dif(V:IU M c st v)(d:HS st st' i j m es es' ds)(fr:aW st.σ st.next=none)(hm:M m∨∀d∈ds,¬M d):IU M (c+1) st' v:=by
 obtain⟨a,xs,e,h,ne,hl,hM⟩:=V
 rcases d.list fr h with⟨rfl,rfl⟩|h'
 ·exact⟨a,xs++[m],e,d.j1,List.append_ne_nil_of_left_ne_nil ne _,d9 xs m▸bK hl,λ y hy=>(ca.mp hy).elim (hM y) λ hy=>aC.mp hy▸hm.elim id λ h=>(List.exists_mem_of_ne_nil xs ne).elim λ d0 h0=>absurd (hM d0 h0) (h d0 h0)⟩
 ·exact⟨a,xs,e,h',ne,Nat.le_succ_of_le hl,hM⟩
theorem Nt.dif{y:D}(N:Nt a st k y)(d:HS st st' i j m es es' ds)(fr:aW st.σ st.next=none)(hs:∀v,aR es k=some v→aR es' k=some v):Nt a st' k y:=by
 obtain⟨fs,b,xs,h1,h2,h3,h4⟩:=N
 have ls:∃ys,aW st'.σ b=some (.list ys)∧y∈ys:=(d.list fr h3).elim (λ e=>⟨_,e.1▸d.j1,List.mem_append_left _ (e.2▸h4)⟩) λ h=>⟨_,h,h4⟩
 obtain⟨ys,h5,h6⟩:=ls
 by_cases e:a=i
 ·subst e
  exact⟨es',b,ys,d.i1,hs _ (rx h1 d.i0▸h2),h5,h6⟩
 ·exact⟨fs,b,ys,d.dict fr e h1,h2,h5,h6⟩
theorem qb(es:Ds):aR es k=some v→∃k',(k',v)∈es:=by
 induction es with
 |nil=>exact λ h=>nsK h
 |cons p r ih=>
  intro h
  have h:cond (di p.1 k) (some p.2) (aR r k)=some v:=h
  generalize di p.1 k=b at h
  induction b using Bool.casesOn with
  |true=>exact⟨p.1,an h▸.head _⟩
  |false=>exact(ih h).imp λ _ h=>.tail _ h
theorem sX(es:Ds):aR es k=none→dp k∉es.map (·.1):=by
 induction es with
 |nil=>exact λ _=>aQ
 |cons p r ih=>
  intro h
  have h:=dw h
  exact λ hm=>(aJ.mp hm).elim (λ e=>tfK ((bI rfl).symm.trans ((gM k k).symm.trans ((e▸h.1:di (dp k) k=false))))) (ih h.2)
theorem vj{fs:Ds}(es:Ds):aR es k=some v→aR (es++fs) k=some v:=by
 induction es with
 |nil=>exact λ h=>nsK h
 |cons p r ih=>
  intro h
  have h:cond (di p.1 k) (some p.2) (aR r k)=some v:=h
  show cond (di p.1 k) (some p.2) (aR (r++fs) k)=some v
  generalize di p.1 k=b at h ⊢
  induction b using Bool.casesOn with
  |true=>exact h
  |false=>exact ih h
theorem JT{i i':Nat}(hi:i<2)(hi':i'<2){d:D}(h:pv L i d)(h':pv L i' d):i=i':=by
 have no (a:MW L d) (b:JU L d):False:=by
  obtain⟨_,_,_,_,e⟩:=a
  obtain⟨_,_,e'⟩:=b
  exact D.noConfusion (e.symm.trans e')
 rcases M7 i hi with rfl|rfl<;>rcases M7 i' hi' with rfl|rfl
 ·rfl
 ·exact(no h h').elim
 ·exact(no h' h).elim
 ·rfl
theorem BB.dif(B:BB L c st)(hi:i<2)(d:HS st st' i j m es es' ds)(hn:st.next≤st'.next)(hf:∀a,st'.next≤a→a≠j)(hm:pv L i m)(hd:∀d∈ds,pv L i d)(he:(∀k v,(k,v)∈es→Gq L i k∧IU (pv L i) (c+1) st' v)→OC (Gq L i) (pv L i) (c+1) st' es'):BB L (c+1) st':=by
 have fr:=B.fresh _ (aq _)
 refine⟨ad B.nx hn,λ a ha=>(d.oth a (λ e=>?_) (hf a ha)).trans (B.fresh a (ad hn ha)),λ i' hi'=>?_⟩
 ·exact absurd (ao hi (ad B.nx (ad hn ha))) (e▸dK _)
 ·obtain⟨fs,hfs,b⟩:=B.bk i' hi'
  by_cases e:i'=i
  ·subst e
   obtain rfl:=rx hfs d.i0
   exact⟨es',d.i1,he λ k v hk=>⟨(b.hv k v hk).1,(b.hv k v hk).2.dif d fr (.inl hm)⟩⟩
  ·exact⟨fs,d.dict fr e hfs,Nat.le_succ_of_le b.hl,b.nd,λ k v hk=>⟨(b.hv k v hk).1,(b.hv k v hk).2.dif d fr (.inr λ y hy h=>e (JT hi' hi h (hd y hy)))⟩⟩
end
end
section
open PySem.Spec
variable{ds:List D}{d:D}
section
variable{L:List Lp}{n c i:Nat}{st:St}{k:cv}{m:D}
theorem sT{f:D→Option PyData}(h:∀d∈ds,∃x,f d=some x):∃xs,cq f ds=some xs:=by
 induction ds with
 |nil=>exact⟨[],rfl⟩
 |cons d ds ih=>
  obtain⟨x,hx⟩:=h d (aF ..)
  obtain⟨xs,hxs⟩:=ih λ d hd=>h d (aK _ hd)
  refine⟨x::xs,?_⟩
  show(f d).bind (λ y=>(cq f ds).map (y::·))=_
  rw[hx,hxs]
  rfl
theorem oS(ds:List D):i9 d ds=true→∃e∈ds,ua 8 e d=true:=by
 induction ds with
 |nil=>exact λ h=>ftK h
 |cons e ds ih=>exact λ h=>(Bool.or_eq_true_iff.mp h).elim (λ h=>⟨e,.head _,h⟩) λ h=>(ih h).imp λ _ h=>⟨.tail _ h.1,h.2⟩
theorem wv(hm:pv L i m):∃x,o6 8 m=some x:=by
 induction i using Nat.casesOn with
 |zero=>
  obtain⟨p,_,h,rfl|rfl,rfl⟩:=hm<;>exact⟨_,rfl⟩
 |succ i=>
  obtain⟨p,_,rfl⟩:=hm
  exact⟨_,rfl⟩
theorem G7{e:D}(hd:pv L i d)(he:pv L i e)(h:ua 8 e d=true):e=d:=by
 induction i using Nat.casesOn with
 |zero=>
  obtain⟨p,_,x,_,rfl⟩:=hd
  obtain⟨q,_,y,_,rfl⟩:=he
  have h:(d5 q.ln p.ln&&(c7 (S y) (S x)&&true))=true:=h
  have h:=aE.mp h
  rw[bP ((dm ..).symm.trans h.1),bP ((eV ..).symm.trans (aE.mp h.2).1)]
 |succ i=>
  obtain⟨p,_,rfl⟩:=hd
  obtain⟨q,_,rfl⟩:=he
  exact ae D.int (bP ((dm q.ln p.ln).symm.trans h))
theorem gQ{x:PyData}(hx:o6 8 m=some x)(h:∀e∈ds,∃x,o6 8 e=some x):mu m ds=some (i9 m ds):=by
 obtain⟨xs,hxs⟩:=sT h
 show(o6 8 m).bind (λ _=>(cq (o6 8) ds).map λ _=>i9 m ds)=_
 rw[hx,hxs]
 rfl
theorem w8(hm:pv L i m)(hd:∀d∈ds,pv L i d):∃b,mu m ds=some b∧(b=true→m∈ds):=by
 obtain⟨x,hx⟩:=wv hm
 refine⟨i9 m ds,gQ hx λ e he=>wv (hd e he),λ h=>?_⟩
 obtain⟨e,he,hb⟩:=oS ds h
 exact G7 hm (hd e he) hb▸he
inductive Qf(L:List Lp)(n c i:Nat)(st:St)(k:cv)(m:D):Prop
 |mk (st':St) (run:ay aP (n+1) 91 [.ob i,dp k,m] st=some (.none,st')) (b:BB L (c+1) st') (p:IT st st') (t:Nt i st' k m)
theorem j7(k:cv):dN (dp k)=some k:=by
 induction k using Sum.casesOn<;>rfl
theorem qa{es:Ds}{v:D}(h:aR es k=none):aR (es++[(dp k,v)]) k=some v:=
 (eQ es h).trans (ae (λ b=>cond b (some v) none) ((gM k k).trans (bI rfl)))
theorem yl(B:BB L c st)(hi:i<2)(hk:Gq L i (dp k))(hm:pv L i m)(hc:c≤900){es:Ds}(he:aW st.σ i=some (.dict es))(b:OC (Gq L i) (pv L i) c st es)(hl:aR es k=none)(hin:mu m []=some false):Qf L n c i st k m:=by
 have hlt:i<st.next:=ao hi B.nx
 let es2:Ds:=es++[(dp k,.ob st.next)]
 let s0:St:=st.add (.list [])
 let s1:St:=s0.put i (.dict es2)
 have g0 (a:Nat):aW s0.σ a=if st.next=a then some (.list [])else aW st.σ a:=c9 ..
 have h0:aW s0.σ i=some (.dict es):=(g0 i).trans ((aI (bM hlt)).trans he)
 have g1 (a:Nat):aW s1.σ a=if i=a then some (.dict es2)else aW s0.σ a:=kT h0 _ a
 have h1:aW s1.σ st.next=some (.list []):=(g1 _).trans ((aI (aL hlt)).trans ((g0 _).trans (aZ rfl)))
 have g2 (a:Nat):aW (s1.put st.next (.list [m])).σ a=if st.next=a then some (.list [m])else aW s1.σ a:=kT h1 _ a
 have i1:aW s1.σ i=some (.dict es2):=(g1 i).trans (aZ rfl)
 have d:HS st (s1.put st.next (.list [m])) i st.next m es es2 []:=⟨he,(g2 i).trans ((aI (bM hlt)).trans i1),.inr ⟨rfl,rfl⟩,(g2 _).trans (aZ rfl),λ a ai aj=>(g2 a).trans ((aI aj.symm).trans ((g1 a).trans ((aI ai.symm).trans ((g0 a).trans (aI aj.symm)))))⟩
 refine⟨_,JH (j7 k) he hl (cG b.hl (ad hc (by decide))) (iJ es hl) h0 i1 (qa hl) h1 hin,B.dif hi d (bT _) (λ a ha=>bM ha) hm (λ y hy=>absurd hy aQ) λ hv=>⟨cz es _▸bK b.hl,?_,λ k' v' h=>?_⟩,λ a k' y N=>N.dif d (B.fresh _ (aq _)) λ v h=>vj es h,⟨es2,st.next,[m],d.i1,qa hl,d.j1,.head _⟩⟩
 ·rw[List.map_append,List.nodup_append]
  exact⟨b.nd,List.pairwise_singleton ..,λ a ha x hx e=>sX es hl ((e.trans (aC.mp hx):a=dp k)▸ha)⟩
 ·rcases ca.mp h with h|h
  ·exact hv k' v' h
  ·have e:(k',v')=(dp k,.ob st.next):=aC.mp h
   have ek:k'=dp k:=ae Prod.fst e
   exact⟨ek.symm▸hk,⟨st.next,[m],ae Prod.snd e,d.j1,List.cons_ne_nil _ _,cC 1 c,λ y hy=>aC.mp hy▸hm⟩⟩
theorem yk(B:BB L c st)(hi:i<2)(hm:pv L i m)(hc:c≤900){es:Ds}(he:aW st.σ i=some (.dict es))(b:OC (Gq L i) (pv L i) c st es){v:D}(hl:aR es k=some v):Qf L n c i st k m:=by
 obtain⟨k0,h0⟩:=qb es hl
 obtain⟨j,ds,rfl,hj,hne,hlen,hd⟩:=(b.hv k0 v h0).2
 obtain⟨q,hq,hqm⟩:=w8 hm hd
 induction q using Bool.casesOn with
 |true=>exact⟨st,JF (j7 k) he hl hj hq,B.more (bT c),λ _ _ _ h=>h,⟨es,j,ds,he,hl,hj,hqm rfl⟩⟩
 |false=>
  have g (a:Nat):aW (st.put j (.list (ds++[m]))).σ a=if j=a then some (.list (ds++[m]))else aW st.σ a:=kT hj _ a
  have d:HS st (st.put j (.list (ds++[m]))) i j m es es ds:=⟨he,(g i).trans ((aI (lJ hj he)).trans he),.inl hj,(g j).trans (aZ rfl),λ a _ aj=>(g a).trans (aI aj.symm)⟩
  exact⟨_,JG (j7 k) he hl hj hq (cG hlen (ad hc (by decide))),B.dif hi d (aq _) (λ a ha e=>nsK ((B.fresh a ha).symm.trans (e▸hj))) hm hd λ hv=>⟨Nat.le_succ_of_le b.hl,b.nd,hv⟩,λ a k' y N=>N.dif d (B.fresh _ (aq _)) λ v h=>h,⟨es,j,_,d.i1,hl,d.j1,b7 _ (.head _)⟩⟩
theorem uX(B:BB L c st)(hi:i<2)(hk:Gq L i (dp k))(hm:pv L i m)(hc:c≤900):Qf L n c i st k m:=by
 obtain⟨es,he,b⟩:=B.bk i hi
 induction hl:aR es k using Option.casesOn with
 |none=>
  obtain⟨q,hq,hqm⟩:=w8 (ds:=[]) hm λ y hy=>absurd hy aQ
  induction q using Bool.casesOn with
  |true=>exact absurd (hqm rfl) aQ
  |false=>exact yl B hi hk hm hc he b hl hq
 |some v=>exact yk B hi hm hc he b hl
end
end
section
open PySem.Spec
noncomputable def nS(run:ee)(m:Nat)(f:Fn)(s:Stmt)(ds:List D)(loc:Loc)(st:St)(k:Loc→St→aD):aD:=eB (gC true f.ns 4 (jy s)) (br (ec aP run m f.ns) (eC s)) ds loc st k
inductive Ot(L:List Lp)(c w:Nat)(st:St)(I:Loc→Prop)(T:St→Prop)(r:(Loc→St→aD)→aD):Prop
 |mk (loc':Loc) (st':St) (h:∀k,af (r k)=af (k loc' st')) (i:I loc') (b:BB L (c+w) st') (p:IT st st') (t:T st')
section
variable{L:List Lp}{c w:Nat}{st:St}{I:Loc→Prop}
theorem kP{α:Type}{asgf:D→Loc→Option Loc}{body:Loc→St→(Loc→St→aD)→aD}(el:α→D){T:α→St→Prop}(hT:∀x st st',IT st st'→T x st→T x st')(xs:List α):(∀x∈xs,∀loc st c,I loc→BB L c st→c+w≤900→∃loc1,asgf (el x) loc=some loc1∧Ot L c w st I (T x) (body loc1 st))→∀{loc:Loc} {st:St} {c:Nat},I loc→BB L c st→c+w*xs.length≤900→Ot L c (w*xs.length) st I (λ st'=>∀x∈xs,T x st') (eB asgf body (xs.map el) loc st):=by
 induction xs with
 |nil=>exact λ _ loc st c i b _=>⟨loc,st,λ _=>rfl,i,b,λ _ _ _ h=>h,λ _ h=>absurd h aQ⟩
 |cons x xs ih=>
  intro step loc st c i b hc
  have e:c+w*(xs.length+1)=c+w+w*xs.length:=(ae (c+·) (Nat.add_comm _ _)).trans (cI ..).symm
  have hc:c+w+w*xs.length≤900:=e▸hc
  obtain⟨loc1,h1,loc2,st2,h2,i2,b2,p2,t2⟩:=step x (.head _) loc st c i b (ad (aB _ _) hc)
  obtain⟨loc3,st3,h3,i3,b3,p3,t3⟩:=ih (λ y hy=>step y (.tail _ hy)) i2 b2 hc
  exact⟨loc3,st3,λ k=>(cM h1 h2 k).trans (h3 k),i3,e.symm▸b3,p2.trans p3,λ y hy=>(aJ.mp hy).elim (λ e=>e▸hT x _ _ p3 t2) (t3 y)⟩
end
noncomputable def sA:Stmt:=bZ (eC (bZ (bj 19).body 1)) 0
noncomputable def sU:Stmt:=bZ (eC sA) 0
noncomputable def sG:Stmt:=bZ (eC sA) 1
noncomputable def lz(ps:D)(t:Loc):Loc:=(S "program",ps)::(S "goals",.ob 1)::(S "names",.ob 0)::t
noncomputable def lx(ps ln ss s:D)(t:Loc):Loc:=lz ps ((S "line",ln)::(S "statements",ss)::(S "statement",s)::t)
inductive XT:Loc→Prop
 |z:XT []
 |n (a b:D):XT [(S "name",a),(S "how",b)]
 |m (a b c:D):XT [(S "name",a),(S "how",b),(S "goal",c)]
 |g (c:D):XT [(S "goal",c)]
 |h (c a b:D):XT [(S "goal",c),(S "name",a),(S "how",b)]
inductive XA(ps ln ss s:D)(loc:Loc):Prop
 |mk (t:Loc) (h:XT t) (e:loc=lx ps ln ss s t)
inductive XL(ps ln ss:D):Loc→Prop
 |y:XL ps ln ss (lz ps [(S "line",ln),(S "statements",ss)])
 |x (s:D) (t:Loc) (h:XT t):XL ps ln ss (lx ps ln ss s t)
inductive XZ(ps:D):Loc→Prop
 |z:XZ ps (lz ps [])
 |l (ln ss:D) (loc:Loc) (h:XL ps ln ss loc):XZ ps loc
inductive Tn(ps ln ss s d:D)(i:Nat)(k m:D)(st st1:St)(run:ee)(sm:Stmt)(loc:Loc):Prop
 |mk (loc1:Loc) (h:XA ps ln ss s loc1) (a:gC true (bj 19).ns 4 (jy sm) d loc=some loc1) (b:run 91 [.ob i,k,m] st=some (.none,st1)→∀k,af (br (ec aP run 37 (bj 19).ns) (eC sm) loc1 st k)=af (k loc1 st1))
section
variable{L:List Lp}{p:Lp}{c n:Nat}{ps ln ss s:D}{st st1:St}{run:ee}{loc:Loc}
theorem Af(h:XA ps ln ss s loc)(a b:D):Tn ps ln ss s (.tup [a,b]) 0 a (.tup [ln,b]) st st1 run sU loc:=by
 obtain⟨t,h,rfl⟩:=h
 induction h with
 |z=>exact⟨_,⟨_,.n a b,rfl⟩,by kernel_rfl,λ hr k=>fK (s:=gv .none st1::[]) hr⟩
 |n _ _=>exact⟨_,⟨_,.n a b,rfl⟩,by kernel_rfl,λ hr k=>fK (s:=gv .none st1::[]) hr⟩
 |m _ _ g=>exact⟨_,⟨_,.m a b g,rfl⟩,by kernel_rfl,λ hr k=>fK (s:=gv .none st1::[]) hr⟩
 |g g=>exact⟨_,⟨_,.h g a b,rfl⟩,by kernel_rfl,λ hr k=>fK (s:=gv .none st1::[]) hr⟩
 |h g _ _=>exact⟨_,⟨_,.h g a b,rfl⟩,by kernel_rfl,λ hr k=>fK (s:=gv .none st1::[]) hr⟩
theorem za(h:XA ps ln ss s loc)(g:D):Tn ps ln ss s g 1 g ln st st1 run sG loc:=by
 obtain⟨t,h,rfl⟩:=h
 induction h with
 |z=>exact⟨_,⟨_,.g g,rfl⟩,by kernel_rfl,λ hr k=>fK (s:=gv .none st1::[]) hr⟩
 |n a b=>exact⟨_,⟨_,.m a b g,rfl⟩,by kernel_rfl,λ hr k=>fK (s:=gv .none st1::[]) hr⟩
 |m a b _=>exact⟨_,⟨_,.m a b g,rfl⟩,by kernel_rfl,λ hr k=>fK (s:=gv .none st1::[]) hr⟩
 |g _=>exact⟨_,⟨_,.g g,rfl⟩,by kernel_rfl,λ hr k=>fK (s:=gv .none st1::[]) hr⟩
 |h _ a b=>exact⟨_,⟨_,.h g a b,rfl⟩,by kernel_rfl,λ hr k=>fK (s:=gv .none st1::[]) hr⟩
theorem sB{d k m:D}{i:Nat}{ka:cv}(hi:i<2)(B:BB L c st)(hk:Gq L i (dp ka))(hm:pv L i m)(hc:c+1≤900)(ek:dp ka=k){sm:Stmt}(tn:∀st1,Tn ps ln ss s d i k m st st1 (ay aP (n+1)) sm loc):∃loc1,gC true (bj 19).ns 4 (jy sm) d loc=some loc1∧Ot L c 1 st (XA ps ln ss s) (λ st'=>Nt i st' ka m) (br (ec aP (ay aP (n+1)) 37 (bj 19).ns) (eC sm) loc1 st):=by
 obtain⟨st',hr,b,p,t⟩:=uX (n:=n) B hi hk hm (bQ hc)
 obtain⟨loc1,h,a,hb⟩:=tn st'
 exact⟨loc1,a,⟨loc1,st',hb (ek▸hr),h,b,p,t⟩⟩
structure NE(ln:Int)(e:Ev)(st:St):Prop where
 u:∀u∈e.2.1,Nt 0 st (.inr (S u.1)) (.tup [.int ln,.str (S u.2)])
 g:∀g∈e.2.2,Nt 1 st (.inl g) (.int ln)
theorem GZ(hp:p∈L){e:Ev}(ok:LN L (ay aP (n+1)) e)(h:XA ps (.int p.ln) ss e.1 loc)(B:BB L c st)(hc:c+6≤900):Ot L c 6 st (XA ps (.int p.ln) ss e.1) (NE p.ln e) (br (ec aP (ay aP (n+1)) 38 (bj 19).ns) (eC sA) loc st):=by
 have h4:1*e.2.1.length≤4:=ad (aM (gm _)) (bu ok.ul)
 have h2:1*e.2.2.length≤2:=ad (aM (gm _)) (bu ok.gl)
 have hs:c+1*e.2.1.length+1*e.2.2.length≤c+6:=cI c _ _▸aO (cb h4 h2) c
 obtain⟨loc1,st1,r1,x1,B1,p1,n1⟩:=kP (w:=1) (I:=XA ps (.int p.ln) ss e.1) (asgf:=gC true (bj 19).ns 4 (jy sU)) (body:=br (ec aP (ay aP (n+1)) 37 (bj 19).ns) (eC sU)) I9 (T:=λ u st=>Nt 0 st (.inr (S u.1)) (.tup [.int p.ln,.str (S u.2)])) (λ _ _ _ p t=>p _ _ _ t) e.2.1 (λ u hu loc st c i b hc=>sB (L:=L) (i:=0) (ka:= .inr (S u.1)) (m:= .tup [.int p.ln,.str (S u.2)]) (by decide) b ⟨u.1,(ok.u.mem u hu).1,rfl⟩ ⟨p,hp,u.2,(ok.u.mem u hu).2,rfl⟩ hc rfl λ st1=>Af i _ _) h B (ad (ad (aB _ _) hs) hc)
 obtain⟨loc2,st2,r2,x2,B2,p2,n2⟩:=kP (w:=1) (I:=XA ps (.int p.ln) ss e.1) (asgf:=gC true (bj 19).ns 4 (jy sG)) (body:=br (ec aP (ay aP (n+1)) 37 (bj 19).ns) (eC sG)) D.int (T:=λ g st=>Nt 1 st (.inl g) (.int p.ln)) (λ _ _ _ p t=>p _ _ _ t) e.2.2 (λ g hg loc st c i b hc=>sB (L:=L) (i:=1) (ka:= .inl g) (m:= .int p.ln) (by decide) b ((ok.g.mem g hg).rec λ j q h e=>⟨q,List.mem_of_getElem? h,ae D.int e.symm⟩) ⟨p,hp,rfl⟩ hc rfl λ st1=>za i _) x1 B1 (ad hs hc)
 refine⟨loc2,st2,λ k=>?_,x2,B2.more hs,p1.trans p2,⟨λ u hu=>p2 _ _ _ (n1 u hu),n2⟩⟩
 obtain⟨t,ht,rfl⟩:=h
 obtain⟨t1,ht1,rfl⟩:=x1
 refine Eq.trans (fK (s:=gv (.lst (e.2.1.map I9)) st::[]) (ok.own st) ?_) ((r1 (λ loc st=>br (ec aP (ay aP (n+1)) 38 (bj 19).ns) [sG] loc st k)).trans (Eq.trans (fK (s:=gv (.lst (e.2.2.map .int)) st1::[]) (ok.goals st1) ?_) (r2 k)))
 ·kernel_rfl
 ·kernel_rfl
end
end
section
open PySem.Spec
variable{f:D→Option D}{g:D→D}{L:List Lp}
section
variable{L:List Lp}{p:Lp}{c n:Nat}{ps ln ss s:D}{st:St}{loc:Loc}
theorem NE.per{e:Ev}{k:Int}{st st':St}(p:IT st st')(h:NE k e st):NE k e st':=⟨λ u hu=>p _ _ _ (h.u u hu),λ g hg=>p _ _ _ (h.g g hg)⟩
theorem KT(h:XL ps ln ss loc)(s:D):∃loc1,gC true (bj 19).ns 4 (jy sA) s loc=some loc1∧XA ps ln ss s loc1:=by
 induction h with
 |y=>exact⟨_,by kernel_rfl,⟨_,.z,rfl⟩⟩
 |x _ t h=>exact⟨_,by kernel_rfl,⟨t,h,rfl⟩⟩
theorem Kc(h:XZ ps loc)(p:Lp):∃loc1,gC true (bj 19).ns 4 (jy (bZ (bj 19).body 1)) p.lineD loc=some loc1∧XL ps (.int p.ln) (.lst p.srcD) loc1:=by
 induction h with
 |z=>exact⟨_,by kernel_rfl,.y⟩
 |l ln ss loc h=>induction h with
  |y=>exact⟨_,by kernel_rfl,.y⟩
  |x s t h=>exact⟨_,by kernel_rfl,.x s t h⟩
theorem BY(h:t5 L)(hp:p∈L)(hx:XL ps (.int p.ln) (.lst p.srcD) loc)(B:BB L c st)(hc:c+36≤900):Ot L c 36 st (XZ ps) (λ st'=>∀e∈p.evs,NE p.ln e st') (br (ec aP (ay aP (n+8)) 39 (bj 19).ns) (eC (bZ (bj 19).body 1)) loc st):=by
 have ok:=h.parts p hp
 have h6:6*p.evs.length≤36:=Nat.mul_le_mul_left 6 (GW ok.kind)
 obtain⟨loc1,st1,r1,x1,B1,p1,t1⟩:=kP (w:=6) (I:=XL ps (.int p.ln) (.lst p.srcD)) (asgf:=gC true (bj 19).ns 4 (jy sA)) (body:=br (ec aP (ay aP (n+8)) 38 (bj 19).ns) (eC sA)) OI (T:=NE p.ln) (λ _ _ _ p t=>t.per p) p.evs (λ e he loc st c i b hc=>by
  obtain⟨loc1,a,x⟩:=KT i e.1
  obtain⟨loc2,st2,r,x2,b2,p2,t2⟩:=GZ (n:=n+7) hp ((KR n ok).mem e he) x b hc
  exact⟨loc1,a,⟨loc2,st2,r,x2.rec λ t ht e=>e▸.x _ t ht,b2,p2,t2⟩⟩) hx B (ad (aO h6 c) hc)
 refine⟨loc1,st1,λ k=>?_,.l _ _ _ x1,B1.more (aO h6 c),p1,t1⟩
 refine Eq.trans ?_ (r1 k)
 have e:=P2 n p st p.kind ok.kind
 induction hx with
 |y=>exact fK (s:=gv (.lst (p.evs.map OI)) st::[]) e
 |x s t ht=>exact fK (s:=gv (.lst (p.evs.map OI)) st::[]) e
end
inductive LsD(M:D→Prop)(v:D):Prop
 |mk (ds:List D) (e:v= .lst ds) (hl:aw ds≤900) (hm:∀d∈ds,M d)
structure BR(K M:D→Prop)(N:Ds):Prop where
 hl:aw N≤900
 nd:(N.map (·.1)).Nodup
 hv:∀k v,(k,v)∈N→K k∧LsD M v
inductive DZ(N:Ds)(k:cv)(m:D):Prop
 |mk (ds:List D) (h:aR N k=some (.lst ds)) (hm:m∈ds)
theorem kz{xs:List D}(h:∀x∈xs,f x=some x):cq f xs=some xs:=by
 induction xs with
 |nil=>rfl
 |cons x xs ih=>exact bU (h x (.head _)) (ih λ y hy=>h y (.tail _ hy))
noncomputable def xM(g:D→D)(es:Ds):Ds:=es.map λ p=>(p.1,g p.2)
theorem p5{es:Ds}(h:∀k v,(k,v)∈es→f v=some (g v)):jY f es=some (xM g es):=by
 induction es with
 |nil=>rfl
 |cons p es ih=>
  show(f p.2).bind (λ d=>(jY f es).map ((p.1,d)::·))=_
  rw[h p.1 p.2 (.head _),ih λ k v hk=>h k v (.tail _ hk)]
  rfl
theorem vi{k:cv}(es:Ds):aR (xM g es) k=(aR es k).map g:=by
 induction es with
 |nil=>rfl
 |cons p es ih=>
  show cond (di p.1 k) (some (g p.2)) (aR (xM g es) k)=(cond (di p.1 k) (some p.2) (aR es k)).map g
  induction di p.1 k using Bool.casesOn with
  |true=>rfl
  |false=>exact ih
noncomputable def L0(st:St)(v:D):D:=(dE st v).elim .none .lst
section
variable{L:List Lp}{c i:Nat}{st:St}
theorem CS{σ:List (Nat×aY)}{d:D}(h:pv L i d):frz σ 9 d=some d:=by
 induction i using Nat.casesOn with
 |zero=>
  obtain⟨p,_,x,_,rfl⟩:=h
  rfl
 |succ i=>
  obtain⟨p,_,rfl⟩:=h
  rfl
theorem BB.frz(B:BB L c st)(hi:i<2)(hc:c≤900):∃N,Mine.frz st.σ 11 (.ob i)=some (.dct N)∧BR (Gq L i) (pv L i) N∧∀k m,Nt i st k m→DZ N k m:=by
 obtain⟨es,he,b⟩:=B.bk i hi
 have one {k v:D} (hk:(k,v)∈es):LsD (pv L i) (L0 st v)∧Mine.frz st.σ 10 v=some (L0 st v):=by
  obtain⟨j,ds,rfl,h,ne,hl,hm⟩:=(b.hv k v hk).2
  have e:L0 st (.ob j)= .lst ds:=ae (λ o=>(Option.bind o iP).elim D.none D.lst) h
  refine⟨⟨ds,e,ad hl hc,hm⟩,?_⟩
  rw[e]
  show(aW st.σ j).bind (KF (cq (Mine.frz st.σ 9)) (jY (Mine.frz st.σ 9)))=_
  rw[h]
  exact ae (Option.map D.lst) (kz λ d hd=>CS (hm d hd))
 refine⟨xM (L0 st) es,?_,⟨?_,?_,λ k y hk=>?_⟩,λ k m t=>?_⟩
 ·show(aW st.σ i).bind (KF (cq (Mine.frz st.σ 10)) (jY (Mine.frz st.σ 10)))=_
  rw[he]
  exact ae (Option.map D.dct) (p5 λ k v hk=>(one hk).2)
 ·rw[bf,xM,aG,←bf]
  exact ad b.hl hc
 ·rw[xM,fz]
  exact b.nd
 ·obtain⟨⟨k',v⟩,hm,e⟩:=aS.mp hk
  have e1:k'=k:=ae Prod.fst e
  have e2:L0 st v=y:=ae Prod.snd e
  subst e1 e2
  exact⟨(b.hv _ v hm).1,(one hm).1⟩
 ·obtain⟨es',j,ds,g1,g2,g3,g4⟩:=t
  obtain rfl:=rx g1 he
  refine⟨ds,(vi _).trans ((ae (Option.map (L0 st)) g2).trans ?_),g4⟩
  exact ae (λ o=>some ((Option.bind o iP).elim D.none D.lst)) g3
end
structure XR(L:List Lp)(N G:Ds):Prop where
 nm:BR Gp (MW L) N
 gl:BR (JU L) (JU L) G
 sets:∀p∈L,∀x,p.sets x→DZ N (.inr (S x)) (.tup [.int p.ln,.str (S "set")])
 goals:∀p∈L,∀g,p.goal g→DZ G (.inl g) (.int p.ln)
theorem bb0:BB L 0 ⟨[(1,.dict []),(0,.dict [])],2⟩:=by
 have z {K M:D→Prop} {st:St}:OC K M 0 st []:=⟨aq _,List.nodup_nil,λ _ _ h=>absurd h aQ⟩
 refine⟨aq _,λ a ha=>?_,λ i hi=>?_⟩
 ·rw[c9,aI (aL (ao (by decide:1<2) ha)),c9,aI (aL (ao (by decide:0<2) ha))]
  rfl
 ·rcases M7 i hi with rfl|rfl<;>exact⟨[],rfl,z⟩
theorem rY{n:Nat}(h:t5 L)(st0:St)(hz:cq (frz [] 12) [.lst (L.map Lp.lineD)]=some [.lst (L.map Lp.lineD)]):∃N G,XR L N G∧ay aP (n+9) 98 [.lst (L.map Lp.lineD)] st0=some (.tup [.dct N,.dct G],st0):=by
 have hc:0+36*L.length≤900:=bC _▸ad (Nat.mul_le_mul_left 36 h.len) (by decide)
 obtain⟨loc',st',r,i,B,_,ne⟩:=kP (L:=L) (w:=36) (I:=XZ (.lst (L.map Lp.lineD))) (asgf:=gC true (bj 19).ns 4 (jy (bZ (bj 19).body 1))) (body:=br (ec aP (ay aP (n+8)) 39 (bj 19).ns) (eC (bZ (bj 19).body 1))) Lp.lineD (T:=λ p st=>∀e∈p.evs,NE p.ln e st) (λ _ _ _ p t e he=>(t e he).per p) L (λ p hp loc st c i b hc=>(Kc i p).imp λ loc1 a=>⟨a.1,BY h hp a.2 b hc⟩) (loc:=lz (.lst (L.map Lp.lineD)) []) .z bb0 hc
 obtain⟨N,f1,bN,tN⟩:=B.frz (i:=0) (by decide) hc
 obtain⟨G,f2,bG,tG⟩:=B.frz (i:=1) (by decide) hc
 refine⟨N,G,⟨bN,bG,λ p hp x hx=>?_,λ p hp g hg=>?_⟩,eJ (f:=bj 19) hz (d:= .tup [.ob 0,.ob 1]) (st':=st') ?_ ?_⟩
 ·exact(GX hx).elim λ e he=>tN _ _ ((ne p hp e he.1).u _ he.2)
 ·exact(GY hg).elim λ e he=>tG _ _ ((ne p hp e he.1).g _ he.2)
 ·have e:af (zq aP (ay aP (n+8)) (bj 19) [.lst (L.map Lp.lineD)] ⟨[],0⟩)=af (nS (ay aP (n+8)) 39 (bj 19) (bZ (bj 19).body 1) (L.map Lp.lineD) (lz (.lst (L.map Lp.lineD)) []) ⟨[(1,.dict []),(0,.dict [])],2⟩ λ loc st=>br (ec aP (ay aP (n+8)) 40 (bj 19).ns) [bZ (bj 19).body 2] loc st λ _ st=>.val .none st):=by kernel_rfl
  refine e.trans ((r _).trans ?_)
  induction i with
  |z=>kernel_rfl
  |l ln ss loc h=>induction h<;>kernel_rfl
 ·exact ae (Option.map D.tup) (bU f1 (bU f2 rfl))
end
section
open PySem.Spec
variable{d:D}{α:Type}{M:D→Prop}
theorem sL{o:Option D}(st:St)(h:o=some d):t8 o st=some (d,st):=ae (t8 · st) h
theorem nN{o:Option Bool}{b:Bool}(st:St)(h:o=some b):mB o st=some (.bool b,st):=ae (mB · st) h
theorem vR{l:List α}:∀{m:List α},l.Nodup→(∀x∈l,x∈m)→l.length≤m.length:=by
 induction l with
 |nil=>exact λ _ _=>bo _
 |cons x l ih=>
  intro m hn h
  obtain⟨s,t,rfl⟩:=List.append_of_mem (h x (.head _))
  have hn:=bF.mp hn
  have t1:=ih (m:=s++t) hn.2 λ y hy=>(ca.mp (h y (.tail _ hy))).elim (List.mem_append_left _) λ a=>(aJ.mp a).elim (λ e=>absurd (e▸hy) hn.1) (b7 _)
  rw[List.length_append]at t1
  rw[List.length_append]
  exact bK t1
theorem r7{β:Type}{el:α→β}{P:α→Prop}{ds:List β}(h:∀d∈ds,∃a,P a∧d=el a):∃xs:List α,ds=xs.map el∧∀a∈xs,P a:=by
 induction ds with
 |nil=>exact⟨[],rfl,λ _ h=>absurd h aQ⟩
 |cons d ds ih=>
  obtain⟨a,ha,rfl⟩:=h d (.head _)
  obtain⟨xs,rfl,hx⟩:=ih λ d hd=>h d (.tail _ hd)
  exact⟨a::xs,rfl,λ b hb=>(aJ.mp hb).elim (λ e=>e▸ha) (hx b)⟩
theorem r9(N:Ds):(∀d∈N.map (·.1),Gp d)→∃ss,gX N=some ss∧ss.map D.str=N.map (·.1):=by
 induction N with
 |nil=>exact λ _=>⟨[],rfl,rfl⟩
 |cons p N ih=>
  intro h
  obtain⟨x,_,e⟩:=h p.1 (.head _)
  obtain⟨ss,h1,h2⟩:=ih λ d hd=>h d (.tail _ hd)
  refine⟨S x::ss,?_,?_⟩
  ·show p.1.str?.bind (λ x=>(gX N).map (x::·))=_
   rw[e,h1]
   rfl
  ·show D.str (S x)::ss.map D.str=p.1::N.map (·.1)
   rw[e,h2]
theorem B7(h:Gp d):d∈([.str (S "X"),.str (S "A"),.str (S "B"),.str (S "C")]:List D):=by
 obtain⟨x,rfl|rfl|rfl|rfl,rfl⟩:=h
 ·exact .head _
 ·exact .tail _ (.head _)
 ·exact .tail _ (.tail _ (.head _))
 ·exact .tail _ (.tail _ (.tail _ (.head _)))
theorem xZ{N:Ds}(h:BR Gp M N):∃ss,kh (.dct N)=some (.lst ((jF ss).map .str))∧ss.length≤4∧∀x∈ss,.str x∈N.map (·.1):=by
 have hk:∀d∈N.map (·.1),Gp d:=λ d hd=>(aS.mp hd).elim λ p hm=>hm.2▸(h.hv p.1 p.2 hm.1).1
 obtain⟨ss,h1,h2⟩:=r9 N hk
 have hl:ss.length≤4:=(aG (as:=ss) D.str).symm.trans (ae List.length h2)▸vR h.nd λ d hd=>B7 (hk d hd)
 have hb:Nat.blt (aw ss) 64=true:=bp.mpr (bf ss▸aA hl (by decide))
 refine⟨ss,?_,hl,λ x hx=>h2▸fP hx⟩
 unfold kh
 dsimp only
 rw[h1]
 dsimp only
 rw[hb]
noncomputable def Js(f:Fn)(i:Nat):Expr:=MD (bZ f.body i)
noncomputable def PW:Expr→Expr
 | .Compare _ _ rs _=>rs.headD sF
 |_=>sF
noncomputable def nsI:Expr:=PW ((Iu (Js (bj 20) 1)).headD sF)
noncomputable def ft(u:Lp×String):D:= .tup [.int u.1.ln,.str (S u.2)]
noncomputable def pA(u:Lp×String):D:= .str (S u.2)
noncomputable def si(us:List (Lp×String)):Bool:=i9 (.str (S "set")) (us.map pA)
noncomputable def c1(N:Ds)(x:Str):Loc:=[(S "names",.dct N),(S "name",.str x)]
inductive MkV(L:List Lp)(N:Ds)(x:Str):Prop
 |mk (us:List (Lp×String)) (h:aR N (.inr x)=some (.lst (us.map ft))) (hl:us.length≤900) (hu:∀u∈us,u.1∈L∧(u.2= "set"∨u.2= "read"))
section
variable{L:List Lp}(n:Nat){N:Ds}{x:Str}{acc:List D}(st:St)
theorem BN{v:D}(h:BR M (MW L) N)(hk:aR N (.inr x)=some v):MkV L N x:=by
 obtain⟨k',h1⟩:=qb N hk
 obtain⟨ds,rfl,hl,hm⟩:=(h.hv k' v h1).2
 obtain⟨us,rfl,hu⟩:=r7 (el:=ft) (P:=λ u=>u.1∈L∧(u.2= "set"∨u.2= "read")) λ d hd=>(hm d hd).elim λ p ⟨hp,how,hh,e⟩=>⟨(p,how),⟨hp,hh⟩,e⟩
 exact⟨us,hk,aG (as:=us) ft▸bf (us.map ft)▸hl,hu⟩
theorem JV(h:BR M (MW L) N)(hx:.str x∈N.map (·.1)):MkV L N x:=by
 induction hk:aR N (.inr x)using Option.casesOn with
 |none=>exact absurd hx (sX N hk)
 |some v=>exact BN h hk
theorem Bu{ds:List D}(h:aR N (.inr x)=some (.lst ds))(k:Loc×List D→St→aD):af (zX (ay aP n) 38 (bj 20).ns (Js (bj 20) 1) (c1 N x,acc) st k)=af (t9 (ay aP n) 36 (cB (bj 20).ns (j3 (Js (bj 20) 1))) nsI ds (c1 N x) st λ d st=>mc (dF st .NotIn (.str (S "set")) d) st λ b st=>cond b (wc (small acc) st λ st=>k (c1 N x,acc++[.str x]) st) (k (c1 N x,acc) st)):=
 fK (s:=gv (.lst ds) st::[]) (sL st (o:=gB st (.dct N) (.str x)) (d:= .lst ds) h)
noncomputable def lh(u:Lp×String):Loc:=[(S "line",.int u.1.ln),(S "how",.str (S u.2))]
theorem GE{us:List (Lp×String)}(hl:us.length≤900)(k:D→St→aD):af (t9 (ay aP n) 36 (cB (bj 20).ns (j3 (Js (bj 20) 1))) nsI (us.map ft) (c1 N x) st k)=af (k (.lst (us.map pA)) st):=
 (iQ (el:=ft) (f:=lh) (g:=λ u=>[pA u]) (λ u y=>by kernel_rfl) (λ _=>aq _) (λ y=>by kernel_rfl) (λ u _ acc ha k=>fK (s:=gv .none st::[]) (lW st ha)) (ad hl (by decide)) k).trans (ae (λ l=>af (k (.lst l) st)) (fx pA us))
theorem Kx(us:List (Lp×String))(hu:∀u∈us,u.2= "set"∨u.2= "read"):mu (.str (S "set")) (us.map pA)=some (si us):=
 gQ (x:= .str (S "set")) rfl λ e he=>by
  obtain⟨u,h,rfl⟩:=aS.mp he
  show∃x,o6 8 (.str (S u.2))=some x
  rcases hu u h with e|e<;>rw[e]<;>exact⟨_,rfl⟩
theorem jq{e:D}(ds:List D):e∈ds→ua 8 e d=true→i9 d ds=true:=by
 induction ds with
 |nil=>exact λ h=>absurd h aQ
 |cons x ds ih=>exact λ h he=>Bool.or_eq_true_iff.mpr ((aJ.mp h).elim (λ e=>.inl (e▸he)) λ h=>.inr (ih h he))
noncomputable def Nm:Type:=Str×List (Lp×String)
noncomputable def nmD(y:Nm):D:= .str y.1
noncomputable def jN(y:Nm):List D:=cond (si y.2) [] [.str y.1]
structure Lz(L:List Lp)(N:Ds)(y:Nm):Prop where
 k:Gp (.str y.1)
 h:aR N (.inr y.1)=some (.lst (y.2.map ft))
 hl:y.2.length≤900
 hu:∀u∈y.2,u.1∈L∧(u.2= "set"∨u.2= "read")
theorem FA{y:Nm}(ok:Lz L N y)(ha:aw acc≤90000)(k:Loc×List D→St→aD):af (zX (ay aP n) 38 (bj 20).ns (Js (bj 20) 1) (c1 N y.1,acc) st k)=af (k (c1 N y.1,acc++jN y) st):=by
 refine(Bu n st ok.h k).trans ((GE n st ok.hl _).trans ?_)
 have hc:dF st .NotIn (.str (S "set")) (.lst (y.2.map pA))=some (!si y.2):=ae (Option.map (!·)) (Kx y.2 λ u hu=>(ok.hu u hu).2)
 unfold jN
 generalize si y.2=b at hc
 induction b using Bool.casesOn with
 |true=>exact fK (s:=gv (.bool false) st::[]) (nN st hc) (by rw[cond_true,aH];kernel_rfl)
 |false=>exact rX (s:=gv (.bool true) st::gv .none st::[]) (nN st hc) (lW st ha)
end
structure LI(L:List Lp)(l:List D):Prop where
 nm:∀d∈l,Gp d
 few:aw l≤900
 no:∀x,.str (S x)∈l→∀p∈L,¬p.sets x
theorem CA{y:Nm}(h:d∈jN y):d= .str y.1∧si y.2=false:=by
 unfold jN at h
 generalize si y.2=b at h
 induction b using Bool.casesOn with
 |true=>exact absurd h aQ
 |false=>exact⟨aC.mp h,rfl⟩
theorem kU{β:Type}{g:α→List β}{m:Nat}{l:List α}(h:∀d∈l,aw (g d)≤m):aw (l.flatMap g)≤m*l.length:=by
 induction l with
 |nil=>exact aq _
 |cons x l ih=>exact cz (g x) (l.flatMap g)▸ad (cb (h x (.head _)) (ih λ y hy=>h y (.tail _ hy))) (aM (Nat.add_comm m (m*l.length)))
theorem ta(y:Nm):aw (jN y)≤1:=by
 unfold jN
 induction si y.2 using Bool.casesOn<;>exact bu rfl
theorem yv{n:Nat}{L:List Lp}(h:t5 L)(st0:St)(hz:cq (frz [] 12) [.lst (L.map Lp.lineD)]=some [.lst (L.map Lp.lineD)]):∃l,LI L l∧ay aP (n+10) 103 [.lst (L.map Lp.lineD)] st0=some (.lst l,st0):=by
 obtain⟨N,G,X,hr⟩:=rY (n:=n) h ⟨[],0⟩ hz
 obtain⟨ss,hs,hl,hm⟩:=xZ X.nm
 obtain⟨ys,ey,hy⟩:=r7 (ds:=jF ss) (el:=Prod.fst) (P:=Lz L N) λ x hx=>by
  have hx:=hm x ((gY ss).mem_iff.mp hx)
  obtain⟨us,h1,h2,h3⟩:=JV X.nm hx
  exact⟨(x,us),⟨(aS.mp hx).elim λ p e=>e.2▸(X.nm.hv p.1 p.2 e.1).1,h1,h2,h3⟩,rfl⟩
 have ly:ys.length≤4:=(aG (as:=ys) Prod.fst).symm.trans ((ae List.length ey).symm.trans (gY ss).length_eq)▸hl
 rw[ey,fz]at hs
 have out {d:D} (hd:d∈ys.flatMap jN):∃y,Lz L N y∧d= .str y.1∧si y.2=false:=(cR.mp hd).elim λ y h=>⟨y,hy y h.1,CA h.2⟩
 refine⟨ys.flatMap jN,⟨λ d hd=>?_,ad (kU λ y _=>ta y) (ad (Nat.mul_le_mul_left 1 ly) (by decide)),λ x hx p hp hset=>?_⟩,eJ (f:=bj 20) hz (d:= .lst (ys.flatMap jN)) (st':=⟨[],0⟩) ?_ ?_⟩
 ·obtain⟨y,ok,rfl,_⟩:=out hd
  exact ok.k
 ·obtain⟨y,ok,e,hb⟩:=out hx
  have e:some (S x)=some y.1:=ae D.str? e
  obtain⟨ds,h4,h5⟩:=X.sets p hp x hset
  rw[an e,ok.h]at h4
  have h4:y.2.map ft=ds:=an (ae (λ o=>Option.bind o (dE ⟨[],0⟩)) h4)
  obtain⟨u,hu,e⟩:=aS.mp (h4▸h5)
  have e:some (D.str (S u.2))=some (D.str (S "set")):=ae (λ d=>(dE ⟨[],0⟩ d).bind λ l=>dj l 1) e
  have e:ua 8 (pA u) (.str (S "set"))=true:=(ae (λ d=>ua 8 d (.str (S "set"))) (an e)).trans rfl
  exact tfK ((jq (y.2.map pA) (fP hu) e).symm.trans hb)
 ·refine Eq.trans (rX (s:=gv (.tup [.dct N,.dct G]) ⟨[],0⟩::au 1 (gv (.lst (ys.map nmD)) ⟨[],0⟩::[])) hr (sL ⟨[],0⟩ hs) ?_) (iQ (run:=ay aP (n+9)) (m:=38) (ns:=(bj 20).ns) (e:=Js (bj 20) 1) (loc:=[(S "program",.lst (L.map Lp.lineD)),(S "names",.dct N)]) (el:=nmD) (f:=λ y=>c1 N y.1) (g:=jN) (λ x y=>by kernel_rfl) ta (λ y=>by kernel_rfl) (λ y hm acc ha k=>FA _ _ (hy y hm) ha k) (ad ly (by decide)) λ d st=>.val d st)
  kernel_rfl
 ·refine ae (Option.map D.lst) (kz (f:=frz [] 11) λ d hd=>?_)
  obtain⟨y,_,rfl,_⟩:=out hd
  rfl
end
section
open PySem.Spec
noncomputable def nY(ns:cr)(e:Expr)(i:Nat):D→Loc→Option Loc:=gC false (cB ns (j3 e)) 4 (gnT e i)
noncomputable def Kg(run:ee)(m:Nat)(ns:cr)(e:Expr):Loc×List D→St→(Loc×List D→St→aD)→aD:=oL (fB ((lc aP run m).t (cB ns (j3 e))) (PC e 1)) ((lc aP run m).e (cB ns (j3 e)) (Iv e))
noncomputable def Kh(run:ee)(m:Nat)(ns:cr)(e:Expr)(ds:List D)(S:Loc×List D)(st:St)(k:Loc×List D→St→aD):aD:=eB (jz (nY ns e 1)) (Kg run m ns e) ds S st k
noncomputable def yH(run:ee)(m:Nat)(ns:cr)(e:Expr):Loc×List D→St→(Loc×List D→St→aD)→aD:=v8 (fB ((lc aP run m).t (cB ns (j3 e))) (PC e 0)) (lM ((lc aP run m).e (cB ns (j3 e))) (gnN e 1)) (Kh run m ns e)
noncomputable def Ki(run:ee)(m:Nat)(ns:cr)(e:Expr)(ds:List D)(loc:Loc)(st:St)(k:D→St→aD):aD:=eB (jz (nY ns e 0)) (yH run m ns e) ds (dR (j3 e) loc,[]) st λ S st'=>k (.lst S.2) st'
noncomputable def HH:Stmt→Expr
 | .Assign _ v _=>v
 | .Return o _=>o.elim sF id
 |_=>sF
noncomputable def N0:Expr→Expr
 | .BinOp _ _ r _=>r
 |e=>e
noncomputable def lg:cr:=(bj 104).ns
noncomputable def DW:Expr:=N0 (HH (bZ (bj 104).body 1))
noncomputable def P3:Expr:=HH (bZ (bj 104).body 2)
noncomputable def Ej:Expr:=N0 (HH (bZ (bj 104).body 3))
noncomputable def jZ(p:Lp):D:= .int p.ln
abbrev Gl:Type:=Lp×List Lp
noncomputable def L1(x:Gl):D:=jZ x.1
noncomputable def glP(x:Gl):D×D:=(jZ x.1,.lst (x.2.map jZ))
noncomputable def CM(x:Gl):List D:=x.2.map λ p=>.tup [jZ p,jZ x.1]
structure Ec(L:List Lp)(G:Ds)(x:Gl):Prop where
 q:x.1∈L
 h:aR G (.inl x.1.ln)=some (.lst (x.2.map jZ))
 hl:x.2.length≤900
 hm:∀p∈x.2,p∈L
inductive LG(G:Ds):Loc→Prop
 |z:LG G [(S "goals",.dct G)]
 |a (x:D):LG G [(S "goals",.dct G),(S "goal",x)]
 |b (x y:D):LG G [(S "goals",.dct G),(S "goal",x),(S "line",y)]
inductive Ok(G:Ds)(x:D):Loc→Prop
 |a:Ok G x [(S "goals",.dct G),(S "goal",x)]
 |b (y:D):Ok G x [(S "goals",.dct G),(S "goal",x),(S "line",y)]
section
variable{L:List Lp}{G:Ds}(n:Nat){st:St}{acc:List D}{loc:Loc}
theorem vK(x:Gl)(hp:Ok G (jZ x.1) loc)(hl:aw acc+1*x.2.length≤90000):∃loc',Ok G (jZ x.1) loc'∧∀kk,af (Kh (ay aP n) 37 lg DW (x.2.map jZ) (loc,acc) st kk)=af (kk (loc',acc++x.2.flatMap λ p=>[.tup [jZ p,jZ x.1]]) st):=
 nX (asgf:=nY lg DW 1) (body:=Kg (ay aP n) 37 lg DW) (g:=λ p=>[.tup [jZ p,jZ x.1]]) 1 x.2 (λ _ _=>aq _) loc acc (λ p _ loc acc hp ha=>by
  refine⟨[(S "goals",.dct G),(S "goal",jZ x.1),(S "line",jZ p)],_,?_,.b (jZ p),λ kk=>fK (s:=gv .none st::[]) (lW st (bQ ha))⟩
  induction hp<;>kernel_rfl) hp hl
theorem vJ{x:Gl}(ok:Ec L G x)(hp:LG G loc)(ha:aw acc+900≤90000):Qi (nY lg DW 0) (yH (ay aP n) 37 lg DW) (LG G) (L1 x) (CM x) loc acc st:=by
 have one:∃loc1,nY lg DW 0 (L1 x) loc=some loc1∧Ok G (jZ x.1) loc1:=by
  induction hp with
  |z=>exact⟨_,by kernel_rfl,.a⟩
  |a _=>exact⟨_,by kernel_rfl,.a⟩
  |b _ y=>exact⟨_,by kernel_rfl,.b y⟩
 obtain⟨loc1,a1,p1⟩:=one
 obtain⟨loc2,p2,r2⟩:=vK n (st:=st) x p1 (ad (aO (ad (aM (gm _)) ok.hl) _) ha)
 rw[fx]at r2
 refine⟨loc1,loc2,a1,by induction p2 with|a=>exact .a _|b y=>exact .b _ y,λ kk=>Eq.trans ?_ (r2 kk)⟩
 have hn:=sL st (o:=gB st (.dct G) (jZ x.1)) ok.h
 induction p1 with
 |a=>exact fK (s:=gv (.lst (x.2.map jZ)) st::[]) hn
 |b y=>exact fK (s:=gv (.lst (x.2.map jZ)) st::[]) hn
theorem y9{gs:List Gl}(ok:∀x∈gs,Ec L G x)(hl:gs.length≤6):∃loc',∀kk,af (eB (jz (nY lg DW 0)) (yH (ay aP n) 37 lg DW) (gs.map L1) ([(S "goals",.dct G)],[]) st kk)=af (kk (loc',gs.flatMap CM) st):=
 (nX (asgf:=nY lg DW 0) (body:=yH (ay aP n) 37 lg DW) (PL:=LG G) (g:=CM) (el:=L1) (st:=st) 900 gs (λ x hx=>bf (CM x)▸ad (aM (aG ..)) (ok x hx).hl) [(S "goals",.dct G)] [] (λ x hx loc acc hp ha=>vJ n (ok x hx) hp ha) .z (ad (aO (Nat.mul_le_mul_left 900 hl) _) (by decide))).imp λ _ h=>h.2
end
end
section
open PySem.Spec
theorem ew(st:St)(ds:List D)(a:Nat)(d:D)(hb:Nat.blt a 1000000=true)(hn:dj ds a=some d):t8 (gB st (.lst ds) (.int (Int.ofNat a))) st=some (d,st):=sL st (by
 show cond (Nat.blt a 1000000) (dj ds a) none=_
 rw[hb]
 exact hn)
theorem w0(st:St)(B:Ds)(i:Int){o:Option D}(h:aR B (.inl i)=o):mB (dF st .In (.int i) (.dct B)) st=some (.bool (iy o),st):=nN st (ae (λ o=>some (iy o)) h)
theorem JO(st:St)(B:Ds)(i:Int){v:D}(h:aR B (.inl i)=some v):t8 (gB st (.dct B) (.int i)) st=some (v,st):=sL st h
noncomputable def dD(i:Nat):Int:=10+10*Int.ofNat i
noncomputable def eg(i:Nat):D:= .int (dD i)
noncomputable def gh(i k:Nat):List D:=(List.range' i k).map eg
noncomputable def xu(i k:Nat):Ds:=(List.range' i k).map λ i=>(eg i,eg (i+1))
noncomputable def ix(i j:Nat):D:= .tup [eg i,eg j]
noncomputable def LW(i k:Nat):List D:=(List.range' i k).map λ i=>ix i (i+1)
theorem jm{i j:Nat}(h:dD i=dD j):i=j:=Int.ofNat.inj (Int.eq_of_mul_eq_mul_left (by decide) (Int.add_left_cancel h))
theorem qX(i k:Nat):(gh i k).length=k:=(aG _).trans List.length_range'
theorem jj{k i:Nat}(h:i<k):dj (gh 0 k) i=some (eg i):=by
 rw[hZ,gh,cJ,List.getElem?_range' h,gm,bC]
 rfl
theorem tT(k:Nat):∀(j i:Nat),aR (xu j k) (.inl (dD i))=if j≤i∧i<j+k then some (eg (i+1))else none:=by
 induction k with
 |zero=>exact λ j i=>(aI λ h=>absurd (ao h.2 h.1) (dK _)).symm
 |succ k ih=>
  intro j i
  by_cases h:j=i
  ·subst h
   rw[aZ ⟨aq _,Nat.lt_add_of_pos_right (Nat.succ_pos k)⟩]
   exact kG
  ·refine(qY λ e=>h (jm e)).trans ((ih (j+1) i).trans ?_)
   have e:(j+1≤i∧i<j+1+k)=(j≤i∧i<j+(k+1)):=propext ⟨λ a=>⟨bQ a.1,cE j 1 k▸a.2⟩,λ a=>⟨Nat.lt_of_le_of_ne a.1 h,(cE j 1 k).symm▸a.2⟩⟩
   simp only[e]
abbrev Kr:Type:=Nat×Int×Int×Int×Int
noncomputable def dS(x:Kr):D:= .lst [.int x.2.1,.int x.2.2.1,.int (Int.ofNat x.1),.int x.2.2.2.1,.int x.2.2.2.2]
noncomputable def II(x:Kr×Nat):D:= .tup [.int (Int.ofNat x.2),dS x.1]
theorem C8(ks:List Kr):∀j,eF j (ks.map dS)=(ks.zipIdx j).map II:=by
 induction ks with
 |nil=>exact λ _=>rfl
 |cons x ks ih=>exact λ j=>ae (II (x,j)::·) (ih (j+1))
noncomputable def OG(k:Nat):Bool:=i9 (.int (Int.ofNat k)) [.int 4,.int 5]
noncomputable def k6(k:Nat):Bool:=ua 8 (.int (Int.ofNat k)) (.int 6)
noncomputable def IO(n:Nat)(x:Kr×Nat):List D:=cond (OG x.1.1) ((aR (xu 0 (n-1)) (.inl (dD x.2))).elim [] λ v=>[v]) []
noncomputable def AT(bs:List D)(x:Kr×Nat):List D:=cond (k6 x.1.1) (bs.map λ b=>.tup [eg x.2,b]) []
noncomputable def Pj(n:Nat)(t:Loc):Loc:=(S "behind",.dct (xu 0 (n-1)))::(S "lines",.lst (gh 0 n))::t
noncomputable def J8(n:Nat)(bs:List D)(t:Loc):Loc:=(S "backs",.lst bs)::(S "lines",.lst (gh 0 n))::t
noncomputable def Pk(x:Kr×Nat):Loc:=[(S "at",.int (Int.ofNat x.2)),(S "part",dS x.1)]
inductive LR(n:Nat)(bs:List D):Loc→Prop
 |z:LR n bs (J8 n bs [])
 |a (a b:D):LR n bs (J8 n bs [(S "at",a),(S "part",b)])
 |b (a b c:D):LR n bs (J8 n bs [(S "at",a),(S "part",b),(S "back",c)])
inductive LF(n:Nat)(bs:List D)(x:Kr×Nat):Loc→Prop
 |a:LF n bs x (J8 n bs [(S "at",.int (Int.ofNat x.2)),(S "part",dS x.1)])
 |b (c:D):LF n bs x (J8 n bs [(S "at",.int (Int.ofNat x.2)),(S "part",dS x.1),(S "back",c)])
section
variable{m:Nat}(n:Nat){st:St}{acc bs:List D}{x:Kr×Nat}{loc:Loc}
theorem Hw(hb:Nat.blt x.2 1000000=true)(hi:x.2<m)(ha:aw acc≤90000)(k:Loc×List D→St→aD):af (zX (ay aP n) 39 lg P3 (Pj m (Pk x),acc) st k)=af (k (Pj m (Pk x),acc++IO m x) st):=by
 have h1:=jj hi
 unfold IO
 induction h4:OG x.1.1 using Bool.casesOn with
 |false=>exact fK (s:=au 1 (gv (.bool false) st::[])) (mJ st h4) (by rw[cond_false,aH];kernel_rfl)
 |true=>
  have h5:=ew st (gh 0 m) x.2 _ hb h1
  induction h2:aR (xu 0 (m-1)) (.inl (dD x.2))using Option.casesOn with
  |none=>exact OM (s:=au 1 (gv (.bool true) st::gv (eg x.2) st::gv (.bool false) st::[])) (mJ st h4) h5 (w0 st (xu 0 (m-1)) (dD x.2) h2) (by rw[cond_true];show _=_;rw[show((none:Option D).elim [] λ v=>[v])=[]from rfl,aH];kernel_rfl)
  |some v=>exact P9 (s:=au 1 (gv (.bool true) st::gv (eg x.2) st::gv (.bool true) st::gv (eg x.2) st::gv v st::gv .none st::[])) (mJ st h4) h5 (w0 st (xu 0 (m-1)) (dD x.2) h2) h5 (JO st (xu 0 (m-1)) (dD x.2) h2) (lW st ha)
theorem Mz(hb:Nat.blt x.2 1000000=true)(hi:x.2<m)(hp:LF m bs x loc)(hl:aw acc+1*bs.length≤90000):∃loc',LF m bs x loc'∧∀kk,af (Kh (ay aP n) 37 lg Ej bs (loc,acc) st kk)=af (kk (loc',acc++bs.map λ b=>.tup [eg x.2,b]) st):=by
 have t:=nX (asgf:=nY lg Ej 1) (body:=Kg (ay aP n) 37 lg Ej) (el:=λ b:D=>b) (PL:=LF m bs x) (g:=λ b=>[.tup [eg x.2,b]]) (st:=st) 1 bs (λ _ _=>aq _) loc acc (λ b _ loc acc hp ha=>by
  refine⟨J8 m bs [(S "at",.int (Int.ofNat x.2)),(S "part",dS x.1),(S "back",b)],_,?_,.b b,λ kk=>rX (s:=gv (eg x.2) st::gv .none st::[]) (ew st (gh 0 m) x.2 _ hb (jj hi)) (lW st (bQ ha))⟩
  induction hp<;>kernel_rfl) hp hl
 rw[fx,List.map_id'']at t
 ·exact t
 ·exact λ _=>rfl
theorem E4(hb:Nat.blt x.2 1000000=true)(hi:x.2<m)(hp:LR m bs loc)(ha:aw acc+1*bs.length≤90000):Qi (nY lg Ej 0) (yH (ay aP n) 37 lg Ej) (LR m bs) (II x) (AT bs x) loc acc st:=by
 have one:∃loc1,nY lg Ej 0 (II x) loc=some loc1∧LF m bs x loc1:=by
  induction hp with
  |z=>exact⟨_,by kernel_rfl,.a⟩
  |a _ _=>exact⟨_,by kernel_rfl,.a⟩
  |b _ _ c=>exact⟨_,by kernel_rfl,.b c⟩
 have up {loc:Loc} (h:LF m bs x loc):LR m bs loc:=by
  induction h with
  |a=>exact .a _ _
  |b c=>exact .b _ _ c
 obtain⟨loc1,a1,p1⟩:=one
 unfold AT
 induction h4:k6 x.1.1 using Bool.casesOn with
 |false=>
  refine⟨loc1,loc1,a1,up p1,λ k=>?_⟩
  rw[cond_false,aH]
  induction p1 with
  |a=>exact fK (s:=au 1 (gv (.bool false) st::[])) (mJ st h4)
  |b c=>exact fK (s:=au 1 (gv (.bool false) st::[])) (mJ st h4)
 |true=>
  obtain⟨loc2,p2,r2⟩:=Mz n (st:=st) hb hi p1 ha
  refine⟨loc1,loc2,a1,up p2,λ k=>Eq.trans ?_ (r2 k)⟩
  induction p1 with
  |a=>exact fK (s:=au 1 (gv (.bool true) st::[])) (mJ st h4)
  |b c=>exact fK (s:=au 1 (gv (.bool true) st::[])) (mJ st h4)
end
theorem HI(run:ee)(n:Nat)(hn:n=3∨n=4∨n=5∨n=6)(ps:List D)(G:Ds):af (zq aP run (bj 104) [.lst (gh 0 n),.lst ps,.dct G] ⟨[],0⟩)=af (Ki run 37 lg DW (jL G) [(S "lines",.lst (gh 0 n)),(S "parts",.lst ps),(S "goals",.dct G),(S "behind",.dct (xu 0 (n-1)))] ⟨[],0⟩ λ d st=>gH (oM st .Add (.lst (LW 0 (n-1))) d) st λ f st=>br (ec aP run 40 lg) [bZ (bj 104).body 2,bZ (bj 104).body 3] [(S "lines",.lst (gh 0 n)),(S "parts",.lst ps),(S "goals",.dct G),(S "behind",.dct (xu 0 (n-1))),(S "found",f)] st λ _ st=>.val .none st):=by
 rcases hn with rfl|rfl|rfl|rfl
 ·exact D0 (s:=au 16 [])
 ·exact D0 (s:=au 22 [])
 ·exact D0 (s:=au 28 [])
 ·exact D0 (s:=au 34 [])
end
section
open PySem.Spec
variable{i:Int}{v:D}
structure D6(L:List Lp):Prop where
 ok:t5 L
 ln:∀(i:Nat) (p:Lp),L[i]?=some p→p.ln=dD i
 len:L.length=3∨L.length=4∨L.length=5∨L.length=6
structure wk(L:List Lp)(ks:List Kr):Prop where
 len:ks.length=L.length
 at_:∀(i:Nat) (p:Lp),L[i]?=some p→∃r,ks[i]?=some (p.kind,r)
structure js(L:List Lp)(s:List D):Prop where
 shape:∀d∈s,∃i j,i<L.length∧j<L.length∧d=ix i j
 all:∀i j,i<L.length→j<L.length→N9 L i j→ix i j∈s
 few:aw s≤6000
theorem s4{d:D}(h:di d (.inl i)=true):d= .int i:=by
 induction d using D.casesOn with
 |int j=>exact ae D.int (bP ((dm j i).symm.trans h))
 |_=>exact ftK h
theorem BU(es:Ds):aR es (.inl i)=some v→(.int i,v)∈es:=by
 induction es with
 |nil=>exact λ h=>nsK h
 |cons p r ih=>
  intro h
  have h:cond (di p.1 (.inl i)) (some p.2) (aR r (.inl i))=some v:=h
  induction hb:di p.1 (.inl i)using Bool.casesOn with
  |true=>
   rw[hb]at h
   exact(Prod.ext (s4 hb).symm (an h).symm:((D.int i,v):D×D)=p)▸.head _
  |false=>
   rw[hb]at h
   exact .tail _ (ih h)
theorem F7(es:Ds):(es.map (·.1)).Nodup→(.int i,v)∈es→aR es (.inl i)=some v:=by
 induction es with
 |nil=>exact λ _ h=>absurd h aQ
 |cons p r ih=>
  intro hn h
  have hn:=bF.mp hn
  rcases aJ.mp h with rfl|h
  ·exact kG
  ·show cond (di p.1 (.inl i)) (some p.2) (aR r (.inl i))=_
   induction hb:di p.1 (.inl i)using Bool.casesOn with
   |true=>
    have e:p.1= .int i:=s4 hb
    exact absurd (aS.mpr ⟨_,h,e.symm⟩) hn.1
   |false=>exact ih hn.2 h
theorem yL(G:Ds):jL G=G.map (·.1):=by
 induction G with
 |nil=>rfl
 |cons p r ih=>exact ae (p.1::·) ih
section
variable{L:List Lp}{N G:Ds}
theorem D6.mem(h:D6 L){p:Lp}(hp:p∈L):∃i,i<L.length∧L[i]?=some p∧jZ p=eg i:=
 (List.mem_iff_getElem?.mp hp).imp λ i hi=>⟨d8 hi,hi,ae D.int (h.ln i p hi)⟩
theorem CK(h:D6 L)(X:XR L N G):∃gs:List Gl,jL G=gs.map L1∧(∀x∈gs,Ec L G x)∧gs.length≤6∧∀p g,DZ G (.inl g) (jZ p)→.tup [jZ p,.int g]∈gs.flatMap CM:=by
 obtain⟨gs,e,ok⟩:=r7 (ds:=G) (el:=glP) (P:=Ec L G) λ kv hm=>by
  obtain⟨k,v⟩:=kv
  obtain⟨⟨q,hq,rfl⟩,ds,rfl,hl,hd⟩:=X.gl.hv k v hm
  obtain⟨ms,rfl,hms⟩:=r7 (el:=jZ) (P:=(·∈L)) λ d hd'=>(hd d hd').imp λ p h=>h
  exact⟨(q,ms),⟨hq,F7 G X.gl.nd hm,aG (as:=ms) jZ▸bf (ms.map jZ)▸hl,hms⟩,rfl⟩
 have ek:jL G=gs.map L1:=(yL G).trans (e▸fz)
 have hl:gs.length≤6:=by
  have f:=vR (m:=gh 0 L.length) X.gl.nd λ d hd=>by
   obtain⟨kv,hm,rfl⟩:=aS.mp hd
   obtain⟨⟨p,hp,e2⟩,_⟩:=X.gl.hv kv.1 kv.2 hm
   obtain⟨i,hi,_,e3⟩:=h.mem hp
   exact aS.mpr ⟨i,List.mem_range'_1.mpr ⟨bo _,(bC _).symm▸hi⟩,(e2.trans e3).symm⟩
  rw[qX,aG,e,aG]at f
  exact ad f h.ok.len
 refine⟨gs,ek,ok,hl,λ p g t=>?_⟩
 obtain⟨ds,h1,h2⟩:=t
 obtain⟨x,hx,ex⟩:=aS.mp (e▸BU G h1)
 have e1:jZ x.1= .int g:=ae Prod.fst ex
 have e2:some (x.2.map jZ)=some ds:=ae (λ y:D×D=>dE ⟨[],0⟩ y.2) ex
 obtain⟨q,hq,eq⟩:=aS.mp (an e2▸h2)
 exact cR.mpr ⟨x,hx,aS.mpr ⟨q,hq,by rw[eq,e1]⟩⟩
end
end
section
open PySem.Spec
variable{i:Nat}
noncomputable def im(n:Nat)(ks:List Kr):List D:=ks.zipIdx.flatMap (IO n)
noncomputable def oh(n:Nat)(gs:List Gl):List D:=LW 0 (n-1)++gs.flatMap CM
noncomputable def ut(n:Nat)(gs:List Gl)(ks:List Kr):List D:=oh n gs++ks.zipIdx.flatMap (AT (im n ks))
section
variable{L:List Lp}{ks:List Kr}{gs:List Gl}{G:Ds}{n:Nat}
theorem n8{x:Kr×Nat}(h:x∈ks.zipIdx):x.2<ks.length:=(cy.mp (List.mk_mem_zipIdx_iff_getElem?.mp (h:(x.1,x.2)∈ks.zipIdx))).1
theorem xt{v:D}(h:aR (xu 0 (n-1)) (.inl (dD i))=some v):i+1<n∧v=eg (i+1):=by
 rw[tT]at h
 by_cases c:0≤i∧i<0+(n-1)
 ·rw[aZ c]at h
  exact⟨Nat.add_lt_of_lt_sub (bC (n-1)▸c.2),(an h).symm⟩
 ·rw[aI c]at h
  exact nsK h
theorem DL(x:Kr×Nat):aw (IO n x)≤1:=by
 unfold IO
 induction OG x.1.1 using Bool.casesOn with
 |false=>exact bo _
 |true=>induction aR (xu 0 (n-1)) (.inl (dD x.2))using Option.casesOn<;>exact bu rfl
theorem AR(bs:List D)(x:Kr×Nat):aw (AT bs x)≤bs.length:=by
 unfold AT
 induction k6 x.1.1 using Bool.casesOn with
 |false=>exact bo _
 |true=>exact aM ((bf _).trans (aG ..))
theorem qu:aw (im n ks)≤ks.length:=ad (kU λ x _=>DL x) (aM ((gm _).trans List.length_zipIdx))
theorem tV{d:D}(h:d∈im n ks):∃j,j<n∧d=eg j:=by
 obtain⟨x,_,hd⟩:=cR.mp h
 unfold IO at hd
 induction hk:OG x.1.1 using Bool.casesOn with
 |false=>
  rw[hk]at hd
  exact absurd hd aQ
 |true=>
  rw[hk]at hd
  induction hl:aR (xu 0 (n-1)) (.inl (dD x.2))using Option.casesOn with
  |none=>
   rw[hl]at hd
   exact absurd hd aQ
  |some v=>
   rw[hl]at hd
   exact⟨x.2+1,(xt hl).1,(aC.mp hd).trans (xt hl).2⟩
theorem DP{k:Nat}{r:Int×Int×Int×Int}(hr:ks[i]?=some (k,r))(hk:k=4∨k=5)(hi:i+1<n):eg (i+1)∈im n ks:=by
 refine cR.mpr ⟨((k,r),i),List.mk_mem_zipIdx_iff_getElem?.mpr hr,?_⟩
 have e:aR (xu 0 (n-1)) (.inl (dD i))=some (eg (i+1)):=(tT ..).trans (aZ ⟨bo _,(bC (n-1)).symm▸Nat.lt_sub_of_add_lt hi⟩)
 unfold IO
 rw[e]
 rcases hk with rfl|rfl<;>exact .head _
theorem AE(h:D6 L)(X:XR L N G)(hps:wk L ks)(ok:∀x∈gs,Ec L G x)(hl:gs.length≤6)(told:∀p g,DZ G (.inl g) (jZ p)→.tup [jZ p,.int g]∈gs.flatMap CM):js L (ut L.length gs ks):=by
 refine⟨λ d hd=>?_,λ i j hi hj st=>?_,?_⟩
 ·rcases ca.mp hd with hd|hd
  ·rcases ca.mp hd with hd|hd
   ·obtain⟨i,hi,rfl⟩:=aS.mp hd
    have hi:=Nat.add_lt_of_lt_sub (bC (L.length-1)▸(List.mem_range'_1.mp hi).2)
    exact⟨i,i+1,Nat.lt_of_succ_lt hi,hi,rfl⟩
   ·obtain⟨x,hx,hd⟩:=cR.mp hd
    obtain⟨p,hp,rfl⟩:=aS.mp hd
    obtain⟨i,hi,_,e1⟩:=h.mem ((ok x hx).hm p hp)
    obtain⟨j,hj,_,e2⟩:=h.mem (ok x hx).q
    exact⟨i,j,hi,hj,by rw[e1,e2];rfl⟩
  ·obtain⟨x,hx,hd⟩:=cR.mp hd
   unfold AT at hd
   induction hk:k6 x.1.1 using Bool.casesOn with
   |false=>
    rw[hk]at hd
    exact absurd hd aQ
   |true=>
    rw[hk]at hd
    obtain⟨b,hb,rfl⟩:=aS.mp hd
    obtain⟨j,hj,rfl⟩:=tV hb
    exact⟨x.2,j,hps.len▸n8 hx,hj,rfl⟩
 ·induction st with
  |next e=>
   subst e
   exact List.mem_append_left _ (List.mem_append_left _ (aS.mpr ⟨i,List.mem_range'_1.mpr ⟨bo _,(bC (L.length-1)).symm▸Nat.lt_sub_of_add_lt hj⟩,rfl⟩))
  |goal p q hp hq hg=>
   have t:=told p q.ln (X.goals p (ge hp) _ hg)
   rw[jZ,h.ln i p hp,h.ln j q hq]at t
   exact List.mem_append_left _ (b7 _ t)
  |back p i0 q hp h6 hq h45 e=>
   subst e
   obtain⟨r,hr⟩:=hps.at_ i p hp
   obtain⟨r0,hr0⟩:=hps.at_ i0 q hq
   refine b7 _ (cR.mpr ⟨((p.kind,r),i),List.mk_mem_zipIdx_iff_getElem?.mpr hr,?_⟩)
   show ix i (i0+1)∈cond (k6 p.kind) _ _
   rw[h6]
   exact aS.mpr ⟨_,DP hr0 h45 hj,rfl⟩
 ·have h1:aw (LW 0 (L.length-1))≤6:=ad (aM ((bf _).trans ((aG ..).trans List.length_range'))) (ad (Nat.sub_le ..) h.ok.len)
  have h2:aw (gs.flatMap CM)≤900*6:=ad (kU λ x hx=>bf (CM x)▸ad (aM (aG ..)) (ok x hx).hl) (Nat.mul_le_mul_left 900 hl)
  have hk:ks.length≤6:=hps.len▸h.ok.len
  have h3:aw (ks.zipIdx.flatMap (AT (im L.length ks)))≤6*6:=ad (kU λ x _=>ad (AR _ x) (ad (ad (aM (bf _).symm) qu) hk)) (Nat.mul_le_mul_left 6 (ad (aM List.length_zipIdx) hk))
  unfold ut oh
  rw[cz,cz]
  exact ad (cb (cb h1 h2) h3) (by decide)
end
end
section
open PySem.Spec
theorem BH(st:St){xs ys:List D}(hx:aw xs≤90000)(hy:aw ys≤90000):oM st .Add (.lst xs) (.lst ys)=some (.lst (xs++ys)):=by
 show cond (small xs&&small ys) (some (D.lst (xs++ys))) none=_
 rw[cG hx (by decide),cG hy (by decide)]
 rfl
noncomputable def Lu(n:Nat)(ps:List D)(G:Ds)(t:Loc):Loc:=(S "lines",.lst (gh 0 n))::(S "parts",.lst ps)::(S "goals",.dct G)::(S "behind",.dct (xu 0 (n-1)))::t
section
variable{L:List Lp}{ks:List Kr}{N G:Ds}
theorem zK(n m:Nat)(hk:ks.length≤6)(hm:ks.length=m)(f:D)(k:D→St→aD):af (t9 (ay aP n) 39 lg P3 (ks.zipIdx.map II) (Lu m (ks.map dS) G [(S "found",f)]) ⟨[],0⟩ k)=af (k (.lst (im m ks)) ⟨[],0⟩):=
 iQ (el:=II) (f:=λ x=>Pj m (Pk x)) (g:=IO m) (λ x y=>by kernel_rfl) DL (λ y=>by kernel_rfl) (λ x hx acc ha k=>Hw n (bp.mpr (ao (n8 hx) (ad hk (by decide)))) (hm▸n8 hx) ha k) (ad (aM List.length_zipIdx) (ad hk (by decide))) k
theorem AV(n m:Nat)(hk:ks.length≤6)(hm:ks.length=m)(f:D){bs:List D}(hb:bs.length≤6)(k:D→St→aD):af (Ki (ay aP n) 37 lg Ej (ks.zipIdx.map II) (Lu m (ks.map dS) G [(S "found",f),(S "backs",.lst bs)]) ⟨[],0⟩ k)=af (k (.lst (ks.zipIdx.flatMap (AT bs))) ⟨[],0⟩):=
 (nX (asgf:=nY lg Ej 0) (body:=yH (ay aP n) 37 lg Ej) (PL:=LR m bs) (el:=II) (g:=AT bs) (st:=⟨[],0⟩) 6 ks.zipIdx (λ x _=>ad (AR bs x) hb) (J8 m bs []) [] (λ x hx loc acc hp ha=>E4 n (bp.mpr (ao (n8 hx) (ad hk (by decide)))) (hm▸n8 hx) hp (ad (aO (ad (aM (gm _)) hb) _) ha)) .z (ad (aO (Nat.mul_le_mul_left 6 (ad (aM List.length_zipIdx) hk)) _) (by decide))).elim λ _ h=>h.2 _
theorem tY(n:Nat)(h:D6 L)(X:XR L N G)(hps:wk L ks)(st0:St)(hz:cq (frz [] 12) [.lst (gh 0 L.length),.lst (ks.map dS),.dct G]=some [.lst (gh 0 L.length),.lst (ks.map dS),.dct G]):∃s,js L s∧ay aP (n+1) 684 [.lst (gh 0 L.length),.lst (ks.map dS),.dct G] st0=some (.lst s,st0):=by
 obtain⟨gs,ek,ok,hl,told⟩:=CK h X
 have SO:=AE h X hps ok hl told
 refine⟨_,SO,?_⟩
 have hk:ks.length≤6:=hps.len▸h.ok.len
 have few:aw (LW 0 (L.length-1))+aw (gs.flatMap CM)+aw (ks.zipIdx.flatMap (AT (im L.length ks)))≤6000:=cz (LW 0 (L.length-1)) _▸cz (oh L.length gs) _▸SO.few
 have up {a:Nat} (h:a≤6000):a≤90000:=ad h (by decide)
 have few1:=ad (aB _ _) few
 refine eJ (f:=bj 104) hz (d:= .lst (ut L.length gs ks)) (st':=⟨[],0⟩) ?_ (ae (Option.map D.lst) (kz (f:=frz [] 11) λ d hd=>?_))
 ·refine(HI (ay aP n) L.length h.len (ks.map dS) G).trans ?_
  obtain⟨_,r1⟩:=y9 n (st:=⟨[],0⟩) ok hl
  rw[ek]
  refine(r1 _).trans ?_
  have a1:=BH ⟨[],0⟩ (up (ad (aB _ _) few1)) (up (ad (cC _ _) few1))
  have a2:=BH ⟨[],0⟩ (xs:=oh L.length gs) (ys:=ks.zipIdx.flatMap (AT (im L.length ks))) (up (cz (LW 0 (L.length-1)) (gs.flatMap CM)▸few1)) (up (ad (cC _ _) few))
  have e2 (f:D):af (br (ec aP (ay aP n) 40 lg) [bZ (bj 104).body 2,bZ (bj 104).body 3] (Lu L.length (ks.map dS) G [(S "found",f)]) ⟨[],0⟩ λ _ st=>.val .none st)=af (t9 (ay aP n) 39 lg P3 (eF 0 (ks.map dS)) (Lu L.length (ks.map dS) G [(S "found",f)]) ⟨[],0⟩ λ b st=>br (ec aP (ay aP n) 40 lg) [bZ (bj 104).body 3] (Lu L.length (ks.map dS) G [(S "found",f),(S "backs",b)]) st λ _ st=>.val .none st):=D0 (s:=[])
  have e3 (f:D) (bs:List D):af (br (ec aP (ay aP n) 40 lg) [bZ (bj 104).body 3] (Lu L.length (ks.map dS) G [(S "found",f),(S "backs",.lst bs)]) ⟨[],0⟩ λ _ st=>.val .none st)=af (Ki (ay aP n) 37 lg Ej (eF 0 (ks.map dS)) (Lu L.length (ks.map dS) G [(S "found",f),(S "backs",.lst bs)]) ⟨[],0⟩ λ d st=>gH (oM st .Add f d) st λ d st=>.val d st):=D0 (s:=[])
  rw[C8]at e2 e3
  refine(ae (λ o=>af (gH o ⟨[],0⟩ _)) a1).trans ((e2 (.lst (oh L.length gs))).trans ((zK n L.length hk hps.len _ _).trans ((e3 _ _).trans ((AV n L.length hk hps.len _ (ad (bf (im L.length ks)▸qu) hk) _).trans ?_))))
  exact ae (λ o=>af (gH o ⟨[],0⟩ _)) a2
 ·obtain⟨i,j,_,_,e⟩:=SO.shape d hd
  exact e▸rfl
end
end
section
open PySem.Spec
noncomputable def L5:Stmt→Expr×List Stmt
 | .While t b _ _=>(t,b)
 |_=>(sF,[])
noncomputable def NL:Stmt:=bZ (bj 105).body 1
noncomputable def PV:Stmt:=bZ (L5 NL).2 0
noncomputable def L2:cr:=(bj 105).ns
noncomputable def iC(F:List D):St:=⟨[(0,.list F)],1⟩
noncomputable def w5(ss:List D)(f:Int)(a:Nat)(t:Loc):Loc:=(S "steps",.lst ss)::(S "first",.int f)::(S "at",.int (Int.ofNat a))::(S "found",.ob 0)::t
noncomputable def FD(F:List Nat):List D:=F.map eg
noncomputable def ya(p:Nat×Nat):D:=ix p.1 p.2
noncomputable def Gg(p:Nat×Nat):Loc:=[(S "here",eg p.1),(S "there",eg p.2)]
inductive Eb:Loc→Prop
 |nil:Eb []
 |two (p:Nat×Nat):Eb (Gg p)
structure wl(m:Nat)(F:List Nat):Prop where
 nd:F.Nodup
 lt:∀i∈F,i<m
 m6:m≤6
inductive Nx(F:List Nat)(x:Nat)(p:Nat×Nat)(F':List Nat):Prop
 |same (h:p.1=x→p.2∈F) (e:F'=F)
 |new (hn:p.2∉F) (e:F'=F++[p.2])
theorem rT(F:List Nat):aw (FD F)=F.length:=(bf _).trans (aG ..)
section
variable{ss:List D}{f:Int}{n m a x:Nat}{F F':List Nat}{p:Nat×Nat}{t:Loc}
theorem LM(h:F[a]?=some x):dj (FD F) a=some (eg x):=(hZ ..).trans ((cJ ..).trans (ae (Option.map eg) h))
theorem Na{i j:Nat}(h:d5 (dD i) (dD j)=true):i=j:=jm (bP ((dm ..).symm.trans h))
theorem Ed(F:List Nat)(j:Nat):∃b,mu (eg j) (FD F)=some b∧(b=true↔j∈F):=by
 refine⟨i9 (eg j) (FD F),gQ (x:= .int (dD j)) rfl λ e he=>(aS.mp he).elim λ i h=>⟨.int (dD i),h.2▸rfl⟩,λ h=>?_,λ h=>jq _ (fP h) (show d5 (dD j) (dD j)=true from(dm ..).trans (bI rfl))⟩
 obtain⟨e,he,hb⟩:=oS _ h
 obtain⟨i,hi,rfl⟩:=aS.mp he
 exact Na (i:=i) (j:=j) hb▸hi
theorem wl.few(h:wl m F):F.length≤m:=by
 have f:=vR (m:=List.range m) h.nd λ i hi=>List.mem_range.mpr (h.lt i hi)
 rwa [List.length_range]at f
theorem wl.small(h:wl m F):aw (FD F)≤6:=rT F▸ad h.few h.m6
theorem Nx.fnd(h:Nx F x p F')(hF:wl m F)(hp:p.2<m):wl m F':=by
 induction h with
 |same _ e=>exact e▸hF
 |new hn e=>
  subst e
  exact⟨List.nodup_append.mpr ⟨hF.nd,List.pairwise_singleton ..,λ a ha b hb e=>hn ((aC.mp hb)▸e▸ha)⟩,λ i hi=>(ca.mp hi).elim (hF.lt i) λ hi=>aC.mp hi▸hp,hF.m6⟩
theorem Nx.ext(h:Nx F x p F'):∃e,F'=F++e:=by
 induction h with
 |same _ e=>exact⟨[],e.trans (aH F).symm⟩
 |new _ e=>exact⟨_,e⟩
theorem Nx.mem(h:Nx F x p F')(e:p.1=x):p.2∈F':=by
 induction h with
 |same h e'=>exact e'▸h e
 |new _ e'=>exact e'▸b7 _ (.head _)
theorem K2(hx:F[a]?=some x)(ha:a<1000)(hl:wl m F)(p:Nat×Nat):∃F',Nx F x p F'∧∀k,af (br (ec aP (ay aP n) 38 L2) (eC PV) (w5 ss f a (Gg p)) (iC (FD F)) k)=af (k (w5 ss f a (Gg p)) (iC (FD F'))):=by
 have it:_:=dL (iC (FD F)) 0 a rfl (bp.mpr (dH ha (by decide))) (LM hx)
 induction he:d5 (dD p.1) (dD x)using Bool.casesOn with
 |false=>exact⟨F,.same (λ e=>tfK (((dm ..).trans (bI (ae dD e))).symm.trans he)) rfl,λ k=>rX (s:=gv (eg x) (iC (FD F))::gv (.bool false) (iC (FD F))::[]) it (mJ (iC (FD F)) he)⟩
 |true=>
  obtain⟨b,hb,hm⟩:=Ed F p.2
  induction b using Bool.casesOn with
  |true=>exact⟨F,.same (λ _=>hm.mp rfl) rfl,λ k=>OM (s:=gv (eg x) (iC (FD F))::gv (.bool true) (iC (FD F))::gv (.bool false) (iC (FD F))::[]) it (mJ (iC (FD F)) he) (gJ (iC (FD F)) 0 rfl hb)⟩
  |false=>
   refine⟨F++[p.2],.new (λ h=>ftK (hm.mpr h)) rfl,λ k=>?_⟩
   rw[show FD (F++[p.2])=FD F++[eg p.2]from List.map_append]
   exact OL (s:=gv (eg x) (iC (FD F))::gv (.bool true) (iC (FD F))::gv (.bool true) (iC (FD F))::gv .none (iC (FD F++[eg p.2]))::[]) it (mJ (iC (FD F)) he) (gJ (iC (FD F)) 0 rfl hb) (lH (iC (FD F)) 0 (eg p.2) rfl (cT (ad hl.small (by decide))))
inductive Qm(ss:List D)(f:Int)(a m:Nat)(F:List Nat)(C:List Nat→Prop)(r:(Loc→St→aD)→aD):Prop
 |mk (F' e:List Nat) (t':Loc) (ht:Eb t') (hF:wl m F') (he:F'=F++e) (c:C F') (h:∀k,af (r k)=af (k (w5 ss f a t') (iC (FD F'))))
theorem Dg(ha:a<1000)(T:List (Nat×Nat)):∀(F:List Nat) (t:Loc),Eb t→F[a]?=some x→wl m F→(∀p∈T,p.2<m)→
  Qm ss f a m F (λ F'=>∀p∈T,p.1=x→p.2∈F') (nS (ay aP n) 38 (bj 105) PV (T.map ya) (w5 ss f a t) (iC (FD F))):=by
 induction T with
 |nil=>exact λ F t ht _ hF _=>⟨F,[],t,ht,hF,(aH F).symm,λ _ h=>absurd h aQ,λ _=>rfl⟩
 |cons p T ih=>
  intro F t ht hx hF hT
  obtain⟨F1,nx,r1⟩:=K2 (ss:=ss) (f:=f) (n:=n) hx ha hF p
  obtain⟨e,rfl⟩:=nx.ext
  obtain⟨F2,e2,t2,ht2,hF2,he2,c,r2⟩:=ih (F++e) (Gg p) (.two p) (oR hx) (nx.fnd hF (hT p (.head _))) λ q hq=>hT q (.tail _ hq)
  refine⟨F2,e++e2,t2,ht2,hF2,he2.trans (cf ..),λ q hq hqx=>(aJ.mp hq).elim (λ e'=>he2▸List.mem_append_left _ (nx.mem (e'▸hqx)|>λ h=>e'▸h)) λ hq=>c q hq hqx,λ k=>(cM (z1:=w5 ss f a (Gg p)) ?_ r1 k).trans (r2 k)⟩
  induction ht<;>kernel_rfl
noncomputable def IK(run:ee):Nat→Loc→St→(Loc→St→aD)→aD:=nA ((lc aP run 39).t L2) (br (ec aP run 39 L2)) (L5 NL).1 (L5 NL).2
theorem Hm(ht:Eb t)(hF:wl m F)(ha:F.length≤a)(g:Nat)(k:Loc→St→aD):af (IK (ay aP n) (g+1) (w5 ss f a t) (iC (FD F)) k)=af (k (w5 ss f a t) (iC (FD F))):=by
 have hb:decide (Int.ofNat a<Int.ofNat (aw (FD F)))=false:=bB λ h=>absurd (Int.ofNat_lt.mp h) (aN.mpr (rT F▸ha))
 have hs:small (FD F)=true:=cT (ad hF.small (by decide))
 induction ht<;>exact rX (s:=gv (.int (aw (FD F):Nat)) (iC (FD F))::gv (.bool false) (iC (FD F))::[]) (dA (iC (FD F)) 0 rfl hs) (mJ (iC (FD F)) hb)
theorem Hk(ht:Eb t)(hF:wl m F)(ha:a<F.length)(g:Nat)(k:Loc→St→aD):af (IK (ay aP n) (g+1) (w5 ss f a t) (iC (FD F)) k)=af (nS (ay aP n) 38 (bj 105) PV ss (w5 ss f a t) (iC (FD F)) λ loc st=>br (ec aP (ay aP n) 39 L2) [bZ (L5 NL).2 1] loc st λ loc st=>IK (ay aP n) g loc st k):=by
 have hb:decide (Int.ofNat a<Int.ofNat (aw (FD F)))=true:=bI (Int.ofNat_lt.mpr ((rT F).symm▸ha))
 have hs:small (FD F)=true:=cT (ad hF.small (by decide))
 induction ht<;>exact rX (s:=gv (.int (aw (FD F):Nat)) (iC (FD F))::gv (.bool true) (iC (FD F))::[]) (dA (iC (FD F)) 0 rfl hs) (mJ (iC (FD F)) hb)
theorem Hl(ht:Eb t)(st:St)(g:Nat)(k:Loc→St→aD):af (br (ec aP (ay aP n) 39 L2) [bZ (L5 NL).2 1] (w5 ss f a t) st λ loc st=>IK (ay aP n) g loc st k)=af (IK (ay aP n) g (w5 ss f (a+1) t) st k):=by
 induction ht<;>exact D0 (s:=au 1 [])
theorem Df{T:List (Nat×Nat)}(hT:∀p∈T,p.2<m)(g:Nat):∀(a:Nat) (F:List Nat) (t:Loc),Eb t→wl m F→m≤g+a→a<1000→(∀j x,j<a→F[j]?=some x→∀p∈T,p.1=x→p.2∈F)→
  ∃a',Qm (T.map ya) f a' m F (λ F'=>∀p∈T,p.1∈F'→p.2∈F') (IK (ay aP n) (g+1) (w5 (T.map ya) f a t) (iC (FD F))):=by
 have out {a:Nat} {F:List Nat} {t:Loc} {g:Nat} (ht:Eb t) (hF:wl m F) (ha:F.length≤a) (hc:∀j x,j<a→F[j]?=some x→∀p∈T,p.1=x→p.2∈F):∃a',Qm (T.map ya) f a' m F (λ F'=>∀p∈T,p.1∈F'→p.2∈F') (IK (ay aP n) (g+1) (w5 (T.map ya) f a t) (iC (FD F))):=
  ⟨a,F,[],t,ht,hF,(aH F).symm,λ p hp h1=>(List.mem_iff_getElem?.mp h1).elim λ j hj=>hc j _ (ao (cy.mp hj).1 ha) hj p hp rfl,Hm ht hF ha g⟩
 induction g with
 |zero=>exact λ a F t ht hF hg _ hc=>out ht hF (ad hF.few (bC a▸hg)) hc
 |succ g ih=>
  intro a F t ht hF hg ha hc
  by_cases hlt:a<F.length
  ·have hx:F[a]?=some F[a]:=bz hlt
   obtain⟨F1,e,t1,ht1,hF1,rfl,c1,r1⟩:=Dg (ss:=T.map ya) (f:=f) (n:=n) ha T F t ht hx hF hT
   have ha6:a+1≤6:=ad hlt (ad hF.few hF.m6)
   obtain⟨a2,F2,e2,t2,ht2,hF2,he2,c2,r2⟩:=ih (a+1) (F++e) t1 ht1 hF1 (cE g 1 a▸hg) (aA ha6 (by decide)) λ j y hj hy p hp hpy=>by
    rcases Nat.lt_or_eq_of_le (Nat.le_of_lt_succ hj)with hj|rfl
    ·exact List.mem_append_left _ (hc j y hj ((List.getElem?_append_left (dH hj hlt)).symm.trans hy) p hp hpy)
    ·exact c1 p hp (hpy.trans (an (hy.symm.trans (oR hx))))
   exact⟨a2,F2,e++e2,t2,ht2,hF2,he2.trans (cf ..),c2,λ k=>(Hk ht hF hlt _ k).trans ((r1 _).trans ((Hl ht1 _ _ k).trans (r2 k)))⟩
  ·exact out ht hF (aN.mp hlt) hc
end
end
section
open PySem.Spec
structure Qg(L:List Lp)(s:List D)(F:List Nat):Prop where
 f:wl L.length F
 zero:0∈F
 all:∀i j,ix i j∈s→i∈F→j∈F
theorem rn(σ:List (Nat×aY))(F:List Nat):cq (frz σ 11) (FD F)=some (FD F):=gf (f:=frz σ 11) (g:=eg) (λ _=>rfl) F
theorem EO{i j i' j':Nat}(h:ix i j=ix i' j'):i=i'∧j=j':=by
 have e (n:Nat):((dE ⟨[],0⟩ (ix i j)).bind λ l=>(dj l n).bind D.int?)=((dE ⟨[],0⟩ (ix i' j')).bind λ l=>(dj l n).bind D.int?):=ae (λ d=>(dE ⟨[],0⟩ d).bind λ l=>(dj l n).bind D.int?) h
 exact⟨jm (an (e 0:some (dD i)=some (dD i'))),jm (an (e 1:some (dD j)=some (dD j')))⟩
theorem Dr(n:Nat){L:List Lp}{s:List D}(h:D6 L)(so:js L s)(st0:St):∃F,Qg L s F∧ay aP (n+1) 691 [.lst s,.int 10] st0=some (.lst (FD F),st0):=by
 obtain⟨T,rfl,hT⟩:=r7 (ds:=s) (el:=ya) (P:=λ p=>p.1<L.length∧p.2<L.length) λ d hd=>(so.shape d hd).elim λ i ⟨j,hi,hj,e⟩=>⟨(i,j),⟨hi,hj⟩,e⟩
 have h3:0<L.length:=List.length_pos_iff.mpr h.ok.ne
 have h0:wl L.length [0]:=⟨List.pairwise_singleton ..,λ i hi=>aC.mp hi▸h3,h.ok.len⟩
 obtain⟨a,F,e,t,ht,hF,he,hc,r⟩:=Df (f:=10) (n:=n) (T:=T) (λ p hp=>(hT p hp).2) 399 0 [0] [] .nil h0 (ad h.ok.len (by decide)) (by decide) λ j x hj=>absurd hj (pO _)
 have hz:cq (frz [] 12) [.lst (T.map ya),.int 10]=some [.lst (T.map ya),.int 10]:=bU (ae (Option.map D.lst) (gf (f:=frz [] 11) (g:=ya) (λ _=>rfl) T)) rfl
 refine⟨F,⟨hF,he▸List.mem_append_left _ (.head _),λ i j hm hi=>?_⟩,eJ (f:=bj 105) hz (d:= .ob 0) (st':=iC (FD F)) ?_ (ae (Option.map D.lst) (rn _ F))⟩
 ·obtain⟨p,hp,e⟩:=aS.mp hm
  have e:=EO e
  exact e.2▸hc p hp (e.1.symm▸hi)
 ·refine Eq.trans (D0 (fin:=IK (ay aP n) 400 (w5 (T.map ya) 10 0 []) (iC (FD [0])) λ loc st=>br (ec aP (ay aP n) 40 L2) [bZ (bj 105).body 2] loc st λ _ st=>.val .none st) (s:=[])) ((r _).trans ?_)
  induction ht<;>kernel_rfl
theorem BT{k k':cv}{d:D}(h:k≠k')(es:Ds):aR es k'=none→aR (d4 es k d) k'=none:=by
 induction es with
 |nil=>exact λ _=>ae (λ b=>cond b (some d) none) ((gM k k').trans (bB h))
 |cons p r ih=>
  intro hn
  have hn:=dw hn
  show aR (cond (di p.1 k) ((p.1,d)::r) (p::d4 r k d)) k'=none
  induction di p.1 k using Bool.casesOn with
  |true=>exact(ae (λ b=>cond b (some d) (aR r k')) hn.1).trans hn.2
  |false=>exact(ae (λ b=>cond b (some p.2) (aR (d4 r k d) k')) hn.1).trans (ih hn.2)
noncomputable def vg(i:Nat):D:= .tup [eg i,.bool true]
theorem jP{i:Nat}(P:List Nat):∀acc:Ds,∃es,gR (P.map vg) acc=some es∧(i∉P→aR acc (.inl (dD i))=none→aR es (.inl (dD i))=none):=by
 induction P with
 |nil=>exact λ acc=>⟨acc,rfl,λ _ h=>h⟩
 |cons j P ih=>
  intro acc
  obtain⟨es,h1,h2⟩:=ih (d4 acc (.inl (dD j)) (.bool true))
  exact⟨es,h1,λ hn ha=>h2 (λ h=>hn (.tail _ h)) (BT (λ e=>hn (aJ.mpr (.inl (jm (Sum.inl.inj e)).symm))) acc ha)⟩
noncomputable def C3(es:Ds)(i:Nat):Bool:=iy (aR es (.inl (dD i)))
noncomputable def C2(es:Ds)(i:Nat):List D:=cond (C3 es i) [] [eg i]
theorem zm(es:Ds)(xs:List Nat):∃F:List Nat,xs.flatMap (C2 es)=FD F∧∀i∈xs,C3 es i=false→i∈F:=by
 induction xs with
 |nil=>exact⟨[],rfl,λ _ h=>absurd h aQ⟩
 |cons j xs ih=>
  obtain⟨F,h1,h2⟩:=ih
  rw[List.flatMap_cons,h1,C2]
  induction hb:C3 es j using Bool.casesOn with
  |true=>exact⟨F,rfl,λ i hi hn=>(aJ.mp hi).elim (λ e=>tfK (hb.symm.trans (e▸hn))) λ hi=>h2 i hi hn⟩
  |false=>exact⟨j::F,rfl,λ i hi hn=>(aJ.mp hi).elim (λ e=>e▸.head _) λ hi=>.tail _ (h2 i hi hn)⟩
noncomputable def OW:cr:=(bj 99).ns
noncomputable def umE:Expr:=(DE (HH (bZ (bj 99).body 0))).headD sF
theorem uu{n:Nat}(hn:n=3∨n=4∨n=5∨n=6):kh (.lst (gh 0 n))=some (.lst (gh 0 n)):=by rcases hn with rfl|rfl|rfl|rfl<;>kernel_rfl
theorem tC{P:List Nat}(hP:P.length≤50){es:Ds}(h:gR (P.map vg) []=some es):tD (.lst (P.map vg))=some (.dct es):=by
 have hs:small (P.map vg)=true:=cT (bf (P.map vg)▸aG (as:=P) vg▸ad hP (by decide))
 unfold tD
 dsimp only
 rw[hs]
 dsimp only
 rw[h]
theorem xJ(n:Nat){m:Nat}(hm:m=3∨m=4∨m=5∨m=6)(P:List Nat)(hP:P.length≤50)(st0:St):∃F,(∀i,i<m→i∉P→i∈F)∧ay aP (n+1) 660 [.lst (gh 0 m),.lst (FD P)] st0=some (.lst (FD F),st0):=by
 obtain⟨es,hes,_⟩:=jP (i:=0) P []
 obtain⟨F,hF,hin⟩:=zm es (List.range' 0 m)
 have hz:cq (frz [] 12) [.lst (gh 0 m),.lst (FD P)]=some [.lst (gh 0 m),.lst (FD P)]:=bU (ae (Option.map D.lst) (gf (f:=frz [] 11) (g:=eg) (λ _=>rfl) (List.range' 0 m))) (bU (ae (Option.map D.lst) (rn [] P)) rfl)
 have l6:m≤6:=by rcases hm with rfl|rfl|rfl|rfl<;>decide
 refine⟨F,λ i hi hn=>hin i (List.mem_range'_1.mpr ⟨bo _,(bC m).symm▸hi⟩) ?_,eJ (f:=bj 99) hz (d:= .lst (FD F)) (st':=⟨[],0⟩) ?_ (ae (Option.map D.lst) (rn _ F))⟩
 ·obtain⟨es',h1,h2⟩:=jP (i:=i) P []
  obtain rfl:=an (hes.symm.trans h1)
  exact ae iy (h2 hn rfl)
 ·refine Eq.trans (D0 (fin:=t9 (ay aP n) 37 OW umE (FD P) [(S "numbers",.lst (gh 0 m)),(S "lines",.lst (FD P))] ⟨[],0⟩ λ d st=>gH (tD d) st λ d st=>br (ec aP (ay aP n) 40 OW) [bZ (bj 99).body 1] [(S "numbers",.lst (gh 0 m)),(S "lines",.lst (FD P)),(S "met",d)] st λ _ st=>.val .none st) (s:=[])) ?_
  refine(iQ (el:=eg) (f:=λ i=>[(S "line",eg i)]) (g:=λ i=>[vg i]) (λ x y=>by kernel_rfl) (λ _=>aq _) (λ y=>by kernel_rfl) (λ i _ acc ha k=>fK (s:=gv .none ⟨[],0⟩::[]) (lW ⟨[],0⟩ ha)) (ad hP (by decide)) _).trans ?_
  rw[fx]
  refine(ae (λ o=>af (gH o ⟨[],0⟩ _)) (tC hP hes)).trans ?_
  refine Eq.trans (fK (fin:=t9 (ay aP n) 38 OW (Js (bj 99) 1) (gh 0 m) [(S "numbers",.lst (gh 0 m)),(S "lines",.lst (FD P)),(S "met",.dct es)] ⟨[],0⟩ λ d st=>.val d st) (s:=au 1 (gv (.lst (gh 0 m)) ⟨[],0⟩::[])) (sL ⟨[],0⟩ (uu hm))) ((iQ (el:=eg) (f:=λ i=>[(S "met",.dct es),(S "number",eg i)]) (g:=C2 es) (λ x y=>by kernel_rfl) (λ i=>?_) (λ y=>by kernel_rfl) (λ i _ acc ha k=>?_) (ad (aM List.length_range') (ad l6 (by decide))) _).trans (ae (λ l=>aD.val (.lst l) _) hF))
  ·unfold C2
   induction C3 es i using Bool.casesOn<;>exact bu rfl
  ·unfold C2
   induction hb:C3 es i using Bool.casesOn with
   |true=>exact fK (s:=gv (.bool false) ⟨[],0⟩::[]) (nN (o:=dF ⟨[],0⟩ .NotIn (eg i) (.dct es)) ⟨[],0⟩ (ae (λ b=>some (!b)) hb)) (by rw[cond_true,aH];kernel_rfl)
   |false=>exact rX (s:=gv (.bool true) ⟨[],0⟩::gv .none ⟨[],0⟩::[]) (nN (o:=dF ⟨[],0⟩ .NotIn (eg i) (.dct es)) ⟨[],0⟩ (ae (λ b=>some (!b)) hb)) (lW ⟨[],0⟩ ha)
end
section
open PySem.Spec
variable{α:Type}{p:Nat×Nat}{ts:List mL}
theorem w1(st:St)(ds:List D)(hs:small ds=true):tH false st (.lst ds) (.int 1) .none=some (.lst (iX 1 ds),st):=by
 show cond (small ds) (some (D.lst (iX 1 ds),st)) none=_
 rw[hs]
 rfl
noncomputable def nb(l:List α):List (α×α):=l.zip l.tail
theorem I2(f:α→D)(xs:List α):∀ys:List α,o8 (xs.map f) (ys.map f)=(xs.zip ys).map λ p=>.tup [f p.1,f p.2]:=by
 induction xs with
 |nil=>exact λ _=>rfl
 |cons x xs ih=>
  intro ys
  induction ys using List.casesOn with
  |nil=>rfl
  |cons y ys=>exact ae (D.tup [f x,f y]::·) (ih ys)
theorem zZ(f:α→D)(P:List α):o8 (P.map f) (iX 1 (P.map f))=(nb P).map λ p=>.tup [f p.1,f p.2]:=by
 induction P using List.casesOn with
 |nil=>rfl
 |cons x P=>exact I2 f (x::P) P
theorem Eo(P:List Nat):o8 (FD P) (iX 1 (FD P))=(nb P).map ya:=zZ eg P
noncomputable def sf(pd:PD):St:=⟨[(0,.pdict pd)],1⟩
noncomputable def J7(ps:List D)(t:Loc):Loc:=(S "lines",.lst ps)::(S "found",.ob 0)::t
noncomputable def Ef:Fn:=bj 98
noncomputable def sbE:Expr:=(DE (HH (bZ Ef.body 2))).headD sF
abbrev Pe:Type:=Nat×Nat×Int
noncomputable def o7(e:Pe):(Int×Int)×D:=((dD e.1,dD e.2.1),.int e.2.2)
noncomputable def LZ(e:Pe):mL:=(dD e.1,dD e.2.1,e.2.2)
noncomputable def OE(e:Pe):D:= .tup [.tup [.int (dD e.1),.int (dD e.2.1)],.int e.2.2]
structure PI(A:List (Nat×Nat))(c:Nat)(es:List Pe):Prop where
 all:∀e∈es,(e.1,e.2.1)∈A
 few:aw es≤c
theorem Fh(k:Int×Int)(es:List Pe):∃z,ye (es.map o7) k (.int 0)= .int z:=by
 induction es with
 |nil=>exact⟨0,rfl⟩
 |cons e es ih=>
  show∃z,cond (decide ((o7 e).1=k)) (.int e.2.2) (ye (es.map o7) k (.int 0))= .int z
  induction decide ((o7 e).1=k)using Bool.casesOn with
  |true=>exact⟨_,rfl⟩
  |false=>exact ih
theorem Ff{A:List (Nat×Nat)}(hp:p∈A)(z:Int)(es:List Pe):∀{c:Nat},PI A c es→∃es',pj (es.map o7) (dD p.1,dD p.2) (.int z)=es'.map o7∧PI A (c+1) es':=by
 induction es with
 |nil=>exact λ {c} _=>⟨[(p.1,p.2,z)],rfl,⟨λ e he=>aC.mp he▸hp,cC 1 c⟩⟩
 |cons e es ih=>
  intro c h
  show∃es',cond (decide ((o7 e).1=(dD p.1,dD p.2))) (((o7 e).1,.int z)::es.map o7) (o7 e::pj (es.map o7) (dD p.1,dD p.2) (.int z))=es'.map o7∧PI A (c+1) es'
  induction decide ((o7 e).1=(dD p.1,dD p.2))using Bool.casesOn with
  |true=>exact⟨(e.1,e.2.1,z)::es,rfl,⟨λ x hx=>(aJ.mp hx).elim (λ e'=>e'▸h.all e (.head _)) λ hx=>h.all x (.tail _ hx),Nat.le_succ_of_le h.few⟩⟩
  |false=>
   obtain⟨es',h1,h2⟩:=ih (c:=aw es) ⟨λ x hx=>h.all x (.tail _ hx),aq _⟩
   exact⟨e::es',ae (o7 e::·) h1,⟨λ x hx=>(aJ.mp hx).elim (λ e'=>e'▸h.all e (.head _)) (h2.all x),bK (ad h2.few h.few)⟩⟩
section
variable{n:Nat}{ps:List D}{A:List (Nat×Nat)}
theorem Jq{pd:PD}{z:Int}(hz:ye pd (dD p.1,dD p.2) (.int 0)= .int z)(hs:aw pd≤900)(k:Loc→St→aD):af (br (ec aP (ay aP n) 39 Ef.ns) (eC (bZ Ef.body 1)) (J7 ps (Gg p)) (sf pd) k)=af (k (J7 ps (Gg p)) (sf (pj pd (dD p.1,dD p.2) (.int (z+1))))):=
 rX (s:=gv (.int z) (sf pd)::au 1 (gv .none (sf pd)::[])) (OH (sf pd) hz) (ae (LV · (sf pd)) (cT (Nc hs)):LV (small pd) (sf pd)=some (.none,sf pd))
theorem EX(T:List (Nat×Nat)):∀(es:List Pe) (t:Loc) (c:Nat),Eb t→(∀p∈T,p∈A)→PI A c es→c+T.length≤900→
  ∃es' t',Eb t'∧PI A (c+T.length) es'∧∀k,af (nS (ay aP n) 39 Ef (bZ Ef.body 1) (T.map ya) (J7 ps t) (sf (es.map o7)) k)=af (k (J7 ps t') (sf (es'.map o7))):=by
 induction T with
 |nil=>exact λ es t c ht _ h _=>⟨es,t,ht,h,λ _=>rfl⟩
 |cons p T ih=>
  intro es t c ht hT h hc
  have e:c+(T.length+1)=c+1+T.length:=(cE c 1 T.length).symm
  have hc:c+1+T.length≤900:=e▸hc
  obtain⟨z,hz⟩:=Fh (dD p.1,dD p.2) es
  obtain⟨es1,h1,h2⟩:=Ff (hT p (.head _)) (z+1) es h
  obtain⟨es',t',ht',h',r⟩:=ih es1 (Gg p) (c+1) (.two p) (λ q hq=>hT q (.tail _ hq)) h2 hc
  have hl:aw (es.map o7)≤900:=ad (aM ((bf _).trans ((aG ..).trans (bf es).symm))) (ad h.few (ad (bT c) (ad (aB _ _) hc)))
  have s1:=Jq (n:=n) (ps:=ps) hz hl
  rw[h1]at s1
  refine⟨es',t',ht',e▸h',λ k=>(cM (z1:=J7 ps (Gg p)) ?_ s1 k).trans (r k)⟩
  induction ht<;>kernel_rfl
end
theorem uw(h:ts.length<64):(fD ts).length≤64:=by
 unfold fD
 induction hb:Nat.blt (aw ts) 2 using Bool.casesOn with
 |true=>exact bJ h
 |false=>
  have h2:0<ts.length:=Nat.pos_of_ne_zero λ e=>by rw[bf,e]at hb;exact tfK hb
  have r:=(mX h2).run (cmp:=λ i j=>Il (ts.getD i (0,0,0)) (ts.getD j (0,0,0)))
  have r:=r.size
  show(List.map _ (Array.toList _)).length≤64
  rw[aG,bf,Array.length_toList,r]
  exact bJ h
theorem AH(h:ts.length<64):∃us:List mL,kh (.lst (ts.map eI))=some (.lst (us.map eI))∧us.length≤64∧∀t∈us,t∈ts:=by
 induction ts using List.casesOn with
 |nil=>exact⟨[],by kernel_rfl,bo _,λ _ h=>h⟩
 |cons t ts=>
  have hb:Nat.blt (aw ((t::ts).map eI)) 64=true:=bp.mpr (bf ((t::ts).map eI)▸(aG (as:=t::ts) eI).symm▸h)
  have h2:∀l:List mL,cq Aq (l.map eI)=some l:=λ l=>by
   induction l with
   |nil=>rfl
   |cons t l ih=>exact(ae (λ o=>Option.bind (some t) λ y=>Option.map (y::·) o) ih).trans rfl
  refine⟨fD (t::ts),?_,uw h,λ u hu=>uv hu⟩
  unfold kh
  dsimp only
  rw[hb]
  dsimp only
  rw[show cq As ((t::ts).map eI)=none from rfl]
  dsimp only
  rw[h2]
theorem Ch(es:List Pe):es.map OE=lN (es.map o7):=by
 induction es with
 |nil=>rfl
 |cons e es ih=>exact ae (OE e::·) ih
theorem Jd(es:List Pe):(es.map LZ).map eI=es.map λ e=>eI (LZ e):=by
 induction es with
 |nil=>rfl
 |cons e es ih=>exact ae (eI (LZ e)::·) ih
theorem tU(n:Nat)(P:List Nat)(hP:P.length≤50)(st0:St):∃ts:List mL,(∀t∈ts,∃p∈nb P,t.1=dD p.1∧t.2.1=dD p.2)∧aw ts≤900∧ay aP (n+1) 655 [.lst (FD P)] st0=some (.lst (ts.map eI),st0):=by
 have hal:(nb P).length≤50:=ad (List.length_zip▸Nat.min_le_left ..) hP
 obtain⟨es,t,ht,h,r⟩:=EX (n:=n) (ps:=FD P) (A:=nb P) (nb P) [] [] 0 .nil (λ _ h=>h) ⟨λ _ h=>absurd h aQ,aq _⟩ (ad (aM (bC _)) (ad hal (by decide)))
 have few:es.length≤50:=ad (aM (bf es).symm) (ad h.few (ad (aM (bC _)) hal))
 obtain⟨us,h4,h6,h5⟩:=AH (ts:=es.map LZ) (aG (as:=es) LZ▸aA few (by decide))
 have hz:cq (frz [] 12) [.lst (FD P)]=some [.lst (FD P)]:=bU (ae (Option.map D.lst) (rn [] P)) rfl
 have hp:small (es.map o7)=true:=cT (bf (es.map o7)▸aG (as:=es) o7▸ad few (by decide))
 have hs:small (FD P)=true:=cT (rT P▸ad hP (by decide))
 refine⟨us,λ t ht=>?_,bf us▸ad h6 (by decide),eJ (f:=bj 98) hz (d:= .lst (us.map eI)) (st':=⟨[],1⟩) ?_ (ae (Option.map D.lst) (gf (f:=frz [] 11) (g:=eI) (λ _=>rfl) us))⟩
 ·obtain⟨e,he,e1⟩:=aS.mp (h5 t ht)
  exact⟨_,h.all e he,e1▸⟨rfl,rfl⟩⟩
 ·refine Eq.trans (fK (fin:=nS (ay aP n) 39 Ef (bZ Ef.body 1) (o8 (FD P) (iX 1 (FD P))) (J7 (FD P) []) (sf []) λ loc st=>br (ec aP (ay aP n) 40 Ef.ns) [bZ Ef.body 2] loc st λ _ st=>.val .none st) (s:=gv (.lst (iX 1 (FD P))) (sf [])::[]) (w1 (sf []) (FD P) hs)) ?_
  rw[Eo]
  refine(r _).trans (Eq.trans (b:=af (t9 (ay aP n) 37 Ef.ns sbE (es.map OE) (J7 (FD P) t) ⟨[],1⟩ λ d st=>gH (kh d) st λ d st=>.val d st)) ?_ ?_)
  ·rw[Ch]
   generalize es.map o7=pd at hp
   induction ht<;>exact fK (s:=gv .none (sf pd)::[]) (ae (LV · (sf pd)) hp:LV (small pd) (sf pd)=some (.none,sf pd))
  ·refine(iQ (el:=OE) (f:=λ e=>[(S "pair",.tup [.int (dD e.1),.int (dD e.2.1)]),(S "many",.int e.2.2)]) (g:=λ e=>[eI (LZ e)]) (λ x y=>by kernel_rfl) (λ _=>aq _) (λ y=>by induction ht<;>kernel_rfl) (λ e _ acc ha k=>fK (s:=au 2 (gv .none ⟨[],1⟩::[])) (lW ⟨[],1⟩ ha)) (ad few (by decide)) _).trans ?_
   rw[fx,←Jd]
   exact ae (λ o=>af (gH o ⟨[],1⟩ λ d st=>.val d st)) h4
end
section
open PySem.Spec
noncomputable def jd(xs:List D)(c:Nat):St:=⟨[(1,.list [.ob 0,.int (Int.ofNat c)]),(0,.list xs)],2⟩
theorem JN(st:St)(ds:List D)(i:Int)(a:Nat)(d:D)(hi:i=Int.ofNat a)(hb:Nat.blt a 1000000=true)(hn:dj ds a=some d):t8 (gB st (.lst ds) (.int i)) st=some (d,st):=hi▸ew st ds a d hb hn
noncomputable def HY:List Int:=[1,0,0,5,1,3,0,0,7,0,1,0,0,8,0,0,0,0,6,2,1]
theorem wS{is:List Int}{y:Nat}(h:y<is.length):∃x,dj (is.map D.int) y=some (.int x):=⟨is[y],(hZ ..).trans ((cJ ..).trans (ae (Option.map D.int) (bz h)))⟩
theorem qV(x:Int){m:Nat}(hm:0<m):∃r,r<m∧x.fmod (Int.ofNat m)=Int.ofNat r:=by
 have h0:0<Int.ofNat m:=Int.ofNat_lt.mpr hm
 obtain⟨r,hr⟩:=Int.eq_ofNat_of_zero_le (Int.fmod_nonneg_of_pos x h0)
 exact⟨r,Int.ofNat_lt.mp (hr▸Int.fmod_lt_of_pos x h0),hr⟩
theorem tv(a b:Nat):(Int.ofNat a).fmod (Int.ofNat b)=Int.ofNat (a%b):=(Int.fmod_eq_emod_of_nonneg (Int.ofNat a) (b:=Int.ofNat b) (Int.natCast_nonneg b)).trans rfl
theorem qT(st:St)(x:Int){m r:Nat}(h0:0<m)(h1:m<1000000)(hr:x.fmod (Int.ofNat m)=Int.ofNat r):t8 (oM st .Mod (.int x) (.int (Int.ofNat m))) st=some (.int (Int.ofNat r),st):=by
 have hp:A8 (Int.ofNat m)=true:=aE.mpr ⟨bp.mpr h0,bp.mpr h1⟩
 refine sL st ?_
 rw[←hr]
 show Option.map D.int (cond (A8 (Int.ofNat m)) (some (x.fmod (Int.ofNat m))) none)=_
 rw[hp]
 rfl
theorem fV(n:Nat){is:List Int}(hl:is.length≤31){c m:Nat}(hc:c≤100)(h0:0<m)(h1:m<100):∃r,r<m∧ay aP (n+1) 667 [.ob 1,.int (Int.ofNat m)] (jd (is.map D.int) c)=some (.int (Int.ofNat r),jd (is.map D.int) (c+1)):=by
 have e:aw (is.map D.int)=is.length:=(bf _).trans (aG ..)
 have hs:small (is.map D.int)=true:=cT (e▸ad hl (by decide))
 have hm6:m<1000000:=dH h1 (by decide)
 let s1:St:=jd (is.map D.int) (c+1)
 by_cases hlt:c<is.length
 ·obtain⟨x,hx⟩:=wS hlt
  obtain⟨r,hr,hm⟩:=qV x h0
  have hb:decide (Int.ofNat c<Int.ofNat (aw (is.map D.int)))=true:=bI (Int.ofNat_lt.mpr (e.symm▸hlt))
  exact⟨r,hr,bw (f:=bj 101) (IQ (s:=au 4 (gv (.int (aw (is.map D.int):Nat)) s1::gv (.bool true) s1::au 1 (gv (.int x) s1::gv (.int (Int.ofNat r)) s1::[]))) (dA s1 0 rfl hs) (mJ s1 hb) (dL s1 0 c rfl (bp.mpr (aA hc (by decide))) hx) (qT s1 x h0 hm6 hm))⟩
 ·obtain⟨x,hx⟩:=wS (is:=HY) (y:=c%21) (Nat.mod_lt _ (by decide))
  obtain⟨r,hr,hm⟩:=qV x h0
  have hb:decide (Int.ofNat c<Int.ofNat (aw (is.map D.int)))=false:=bB λ h=>hlt (e▸Int.ofNat_lt.mp h)
  exact⟨r,hr,bw (f:=bj 101) (IQ (s:=au 4 (gv (.int (aw (is.map D.int):Nat)) s1::gv (.bool false) s1::au 2 (gv (.int x) s1::gv (.int (Int.ofNat r)) s1::[]))) (dA s1 0 rfl hs) (mJ s1 hb) (JN s1 (HY.map D.int) ((Int.ofNat c).fmod 21) (c%21) _ (tv c 21) (bp.mpr (dH (Nat.mod_lt c (by decide)) (by decide:21<1000000))) hx) (qT s1 x h0 hm6 hm))⟩
end
section
open PySem.Spec
theorem wZ(st:St)(ds:List D)(hs:small ds=true):rJ st .len [.lst ds]=some (.int (aw ds:Nat),st):=by
 show cond (small ds) (some (D.int (aw ds:Nat),st)) none=_
 rw[hs]
 rfl
theorem FH(st:St){i:Int}{w:Str}(h:lr i=some w):rJ st .str [.int i]=some (.str w,st):=by
 show Option.map _ (lr i)=_
 rw[h]
 rfl
theorem FQ(st:St){xs ys:List D}(hx:small xs=true)(hy:small ys=true):t8 (oM st .Add (.lst xs) (.lst ys)) st=some (.lst (xs++ys),st):=sL st (by
 show cond (small xs&&small ys) (some (D.lst (xs++ys))) none=_
 rw[hx,hy]
 rfl)
noncomputable def Ik(ln:Int)(w:Str)(nm src:String)(k o t:Nat)(g0 g1:Int):Lp:=⟨ln,w,nm,src,k,1+Int.ofNat o,g0,g1,1+(Int.ofNat t).fmod 3,(Int.ofNat t).fmod 3⟩
noncomputable def z7(p:Lp):List D:=[.lst (p.srcK 0),.lst (p.srcK 1),.lst (p.srcK 2),.lst (p.srcK 3),.lst (p.srcK 4),.lst (p.srcK 5),.lst (p.srcK 6),.lst (p.srcK 7),.lst (p.srcK 8),.lst (p.srcK 9)]
theorem Ge(n:Nat)(ls:List D)(a g s k o t r0 r1:Nat)(i g0 g1:Int)(nm src:String)(w:PySem.Str)(ws:List D)(bg:Nat.blt g 1000000=true)(hg:dj ([.str (S "A"),.str (S "B"),.str (S "C")]:List D) g=some (.str (S nm)))(bs:Nat.blt s 1000000=true)(hs:dj ([.str (S "A"),.str (S "B"),.str (S "C")]:List D) s=some (.str (S src)))(sl:small ls=true)(l0:0<aw ls)(l1:aw ls<1000000)(m0:(Int.ofNat o).fmod (Int.ofNat (aw ls))=Int.ofNat r0)(b0:Nat.blt r0 1000000=true)(h0:dj ls r0=some (.int g0))(m1:(Int.ofNat t).fmod (Int.ofNat (aw ls))=Int.ofNat r1)(b1:Nat.blt r1 1000000=true)(h1:dj ls r1=some (.int g1))(ba:Nat.blt a 1000000=true)(ha:dj ls a=some (.int i))(hw:lr i=some w)(bk:Nat.blt k 1000000=true)(hk:dj (z7 (Ik i w nm src k o t g0 g1)) k=some (.lst ws))(sw:small ws=true):af (zq aP (ay aP n) (bj 103) [.int (Int.ofNat a),.lst [.int (Int.ofNat g),.int (Int.ofNat s),.int (Int.ofNat k),.int (Int.ofNat o),.int (Int.ofNat t)],.lst ls] ⟨[],0⟩)= .val (.lst (jx "X" jX::.tup [.str (S "REM"),.str w]::jx nm (Ik i w nm src k o t g0 g1).addT::ws)) (⟨[],0⟩):=(P6 (s:=gv (D.str (S nm)) ⟨[],0⟩::gv (D.str (S src)) ⟨[],0⟩::gv (D.int ↑(aw ls)) ⟨[],0⟩::gv (D.int (Int.ofNat r0)) ⟨[],0⟩::gv (D.int g0) ⟨[],0⟩::gv (D.int ↑(aw ls)) ⟨[],0⟩::gv (D.int (Int.ofNat r1)) ⟨[],0⟩::gv (D.int g1) ⟨[],0⟩::au 7 (gv (D.int i) ⟨[],0⟩::gv (D.str w) ⟨[],0⟩::au 1 (gv (D.lst ws) ⟨[],0⟩::gv (D.lst ([jx "X" jX,.tup [.str (S "REM"),.str w],jx nm (Ik i w nm src k o t g0 g1).addT]++ws)) ⟨[],0⟩::[]))) (ew ⟨[],0⟩ [D.str (S "A"),D.str (S "B"),D.str (S "C")] g (D.str (S nm)) bg hg) (ew ⟨[],0⟩ [D.str (S "A"),D.str (S "B"),D.str (S "C")] s (D.str (S src)) bs hs) (wZ ⟨[],0⟩ ls sl) (qT ⟨[],0⟩ (Int.ofNat o) l0 l1 m0) (ew ⟨[],0⟩ ls r0 (D.int g0) b0 h0) (wZ ⟨[],0⟩ ls sl) (qT ⟨[],0⟩ (Int.ofNat t) l0 l1 m1) (ew ⟨[],0⟩ ls r1 (D.int g1) b1 h1) (ew ⟨[],0⟩ ls a (D.int i) ba ha) (FH ⟨[],0⟩ hw) (ew ⟨[],0⟩ (z7 (Ik i w nm src k o t g0 g1)) k (D.lst ws) bk hk) (FQ ⟨[],0⟩ (xs:=[jx "X" jX,.tup [.str (S "REM"),.str w],jx nm (Ik i w nm src k o t g0 g1).addT]) rfl sw))
theorem z6(p:Lp)(k:Nat)(h:k≤9):dj (z7 p) k=some (.lst (p.srcK k))∧small (p.srcK k)=true:=by
 rcases Eg k h with rfl|rfl|rfl|rfl|rfl|rfl|rfl|rfl|rfl|rfl<;>exact⟨rfl,rfl⟩
end
section
open PySem.Spec
noncomputable def nZ:List Stmt:=(bj 107).body
noncomputable def fG:cr:=(bj 107).ns
theorem FO(b:Bool)(st:St)(ds es:List D)(hb:b=true)(hs:small ds=true)(he:gE 31 ds=es):tH b st (.lst ds) .none (.int 31)=some (.ob st.next,st.add (.list es)):=by
 subst he hb
 show cond (small ds) (some (D.ob st.next,st.add (.list (gE 31 ds)))) none=_
 rw[hs]
 rfl
noncomputable def ej(run:ee)(orc:zY)(i j:Nat)(loc:Loc)(st:St)(k:Loc→St→aD):aD:=br (C5 aP run 696 orc (S "_law_noted") fG) ((nZ.drop i).take j) loc st k
noncomputable def M6(ds:List D):Loc:=[(S "script",.lst ds)]
noncomputable def OR:List D:=[.str (S "A"),.str (S "B"),.str (S "C")]
noncomputable def MZ(ds:List D)(m:Nat)(t:Loc):Loc:=(S "script",.lst ds)::(S "_law_names",.lst OR)::(S "bag",.ob 1)::(S "lines",.lst (gh 0 m))::t
theorem yJ(n:Nat){is:List Int}(hl:is.length≤63):∃m,(m=3∨m=4∨m=5∨m=6)∧∀orc k,af (ej (ay aP (n+1)) orc 0 3 (M6 (is.map D.int)) ⟨[],0⟩ k)=af (k (MZ (is.map D.int) m []) (jd ((is.take 31).map D.int) 1)):=by
 have hs:small (is.map D.int)=true:=cT (bf (is.map D.int)▸aG (as:=is) D.int▸ad hl (by decide))
 have he:gE 31 (is.map D.int)=(is.take 31).map D.int:=(Av ..).trans List.map_take.symm
 obtain⟨r,hr,h0⟩:=fV n (is:=is.take 31) (List.length_take_le ..) (c:=0) (m:=4) (by decide) (by decide) (by decide)
 have c0:_:=FO true ⟨[],0⟩ _ _ rfl hs he
 rcases lt4 r hr with rfl|rfl|rfl|rfl
 ·exact⟨3,.inl rfl,λ orc k=>rX (s:=gv (D.ob 0) (⟨[(0,.list ((is.take 31).map D.int))],1⟩)::gv (D.int 0) (jd ((is.take 31).map D.int) 1)::au 11 []) c0 h0⟩
 ·exact⟨4,.inr (.inl rfl),λ orc k=>rX (s:=gv (D.ob 0) (⟨[(0,.list ((is.take 31).map D.int))],1⟩)::gv (D.int 1) (jd ((is.take 31).map D.int) 1)::au 14 []) c0 h0⟩
 ·exact⟨5,.inr (.inr (.inl rfl)),λ orc k=>rX (s:=gv (D.ob 0) (⟨[(0,.list ((is.take 31).map D.int))],1⟩)::gv (D.int 2) (jd ((is.take 31).map D.int) 1)::au 17 []) c0 h0⟩
 ·exact⟨6,.inr (.inr (.inr rfl)),λ orc k=>rX (s:=gv (D.ob 0) (⟨[(0,.list ((is.take 31).map D.int))],1⟩)::gv (D.int 3) (jd ((is.take 31).map D.int) 1)::au 20 []) c0 h0⟩
noncomputable def LY:Expr:=HH (bZ nZ 3)
abbrev zQ:=Nat×Nat×Nat×Nat×Nat
noncomputable def Nf(q:zQ):Kr:=(q.2.2.1,Int.ofNat q.1,Int.ofNat q.2.1,Int.ofNat q.2.2.2.1,Int.ofNat q.2.2.2.2)
noncomputable def zW(q:zQ):D:=dS (Nf q)
structure HM(q:zQ):Prop where
 g:q.1<3
 s:q.2.1<3
 k:q.2.2.1<10
 o:q.2.2.2.1<6
 t:q.2.2.2.2<6
noncomputable def M9(l:D):Loc:=[(S "bag",.ob 1),(S "line",l)]
inductive LB:Loc→Prop
 |z:LB [(S "bag",.ob 1)]
 |l (d:D):LB (M9 d)
theorem Fj(n:Nat)(xs acc:List D)(l:D)(c0 c1 c2 c3 c4 c5 r0 r1 r2 r3 r4:Nat)(h0:ay aP n 667 [.ob 1,.int 3] (jd xs c0)=some (.int (Int.ofNat r0),jd xs c1))(h1:ay aP n 667 [.ob 1,.int 3] (jd xs c1)=some (.int (Int.ofNat r1),jd xs c2))(h2:ay aP n 667 [.ob 1,.int 10] (jd xs c2)=some (.int (Int.ofNat r2),jd xs c3))(h3:ay aP n 667 [.ob 1,.int 6] (jd xs c3)=some (.int (Int.ofNat r3),jd xs c4))(h4:ay aP n 667 [.ob 1,.int 6] (jd xs c4)=some (.int (Int.ofNat r4),jd xs c5))(ha:aw acc≤90000)(k:Mine.Loc×List D→Mine.St→aD):af (zX (ay aP n) 39 fG LY (M9 l,acc) (jd xs c0) k)=af (k (M9 l,acc++[zW (r0,r1,r2,r3,r4)]) (jd xs c5)):=
 P9 (s:=gv (D.int (Int.ofNat r0)) (jd xs c1)::au 1 (gv (D.int (Int.ofNat r1)) (jd xs c2)::au 1 (gv (D.int (Int.ofNat r2)) (jd xs c3)::au 1 (gv (D.int (Int.ofNat r3)) (jd xs c4)::au 1 (gv (D.int (Int.ofNat r4)) (jd xs c5)::au 1 (gv .none (jd xs c5)::[])))))) h0 h1 h2 h3 h4 (lW (jd xs c5) ha)
inductive PtR(c m:Nat)(acc xs:List D)(r:(Loc×List D→St→aD)→aD):Prop
 |mk (Q:List zQ) (loc':Loc) (len:Q.length=m) (ok:∀q∈Q,HM q) (h:∀k,af (r k)=af (k (loc',acc++Q.map zW) (jd xs (c+5*m))))
theorem uP(n:Nat){is:List Int}(hl:is.length≤31)(ds:List D):∀(loc:Loc) (acc:List D) (c:Nat),LB loc→c+5*ds.length≤100→aw acc+ds.length≤90000→
  PtR c ds.length acc (is.map D.int) (eB (jz (B3 fG LY)) (zX (ay aP (n+1)) 39 fG LY) ds (loc,acc) (jd (is.map D.int) c)):=by
 induction ds with
 |nil=>exact λ loc acc c _ _ _=>⟨[],loc,rfl,λ _ h=>absurd h aQ,λ k=>ae (λ a=>af (k (loc,a) _)) (aH acc).symm⟩
 |cons d ds ih=>
  intro loc acc c hp hc ha
  have e:c+5*(ds.length+1)=c+5+5*ds.length:=(ae (c+·) (Nat.add_comm _ _)).trans (cI ..).symm
  have hc:c+5+5*ds.length≤100:=e▸hc
  have hc5:c+5≤100:=ad (aB _ _) hc
  have le {j:Nat} (h:j≤5):c+j≤100:=ad (aO h c) hc5
  obtain⟨r0,g0,h0⟩:=fV n hl (c:=c) (m:=3) (le (j:=0) (by decide)) (by decide) (by decide)
  obtain⟨r1,g1,h1⟩:=fV n hl (c:=c+1) (m:=3) (le (by decide)) (by decide) (by decide)
  obtain⟨r2,g2,h2⟩:=fV n hl (c:=c+2) (m:=10) (le (by decide)) (by decide) (by decide)
  obtain⟨r3,g3,h3⟩:=fV n hl (c:=c+3) (m:=6) (le (by decide)) (by decide) (by decide)
  obtain⟨r4,g4,h4⟩:=fV n hl (c:=c+4) (m:=6) (le (by decide)) (by decide) (by decide)
  have ha1:aw acc+1+ds.length≤90000:=(cE (aw acc) 1 ds.length).symm▸ha
  obtain⟨Q,loc',hQ,hok,h5⟩:=ih (M9 d) (acc++[zW (r0,r1,r2,r3,r4)]) (c+5) (.l d) hc (d9 acc _▸ha1)
  refine⟨(r0,r1,r2,r3,r4)::Q,loc',ae Nat.succ hQ,λ q hq=>(aJ.mp hq).elim (λ e=>e▸⟨g0,g1,g2,g3,g4⟩) (hok q),λ k=>?_⟩
  have ea:jz (B3 fG LY) d (loc,acc)=some (M9 d,acc):=by induction hp<;>kernel_rfl
  refine(cM ea (Fj (n+1) _ acc d c _ _ _ _ _ r0 r1 r2 r3 r4 h0 h1 h2 h3 h4 (ad (aB _ _) ha)) k).trans ((h5 k).trans ?_)
  rw[cf,←e]
  rfl
noncomputable def J3(ds:List D)(m:Nat)(Q:List zQ)(t:Loc):Loc:=MZ ds m ((S "parts",.lst (Q.map zW))::t)
theorem yI(n:Nat)(ds:List D){is:List Int}(hl:is.length≤31){m:Nat}(hm:m≤6):∃Q:List zQ,Q.length=m∧(∀q∈Q,HM q)∧∀orc k,af (ej (ay aP (n+1)) orc 3 1 (MZ ds m []) (jd (is.map D.int) 1) k)=af (k (J3 ds m Q []) (jd (is.map D.int) (1+5*m))):=by
 have t:=uP n hl (gh 0 m) [(S "bag",.ob 1)] [] 1 .z
 rw[qX]at t
 obtain⟨Q,loc',hQ,hok,h⟩:=t (ad (aO (Nat.mul_le_mul_left 5 hm) 1) (by decide)) (ad (aO hm _) (by decide))
 refine⟨Q,hQ,hok,λ orc k=>?_⟩
 have e:af (ej (ay aP (n+1)) orc 3 1 (MZ ds m []) (jd (is.map D.int) 1) k)=af (eB (jz (B3 fG LY)) (zX (ay aP (n+1)) 39 fG LY) (gh 0 m) ([(S "bag",.ob 1)],[]) (jd (is.map D.int) 1) λ S st=>k (MZ ds m [(Mine.S "parts",.lst S.2)]) st):=by kernel_rfl
 exact e.trans (h _)
end
section
open PySem.Spec
noncomputable def pgE:Expr:=HH (bZ nZ 4)
structure rQ(m i:Nat)(q:zQ)(p:Lp):Prop where
 ln:p.ln=dD i
 kind:p.kind=q.2.2.1
 le:p.kind≤9
 nm:lX p.nm
 src:lX p.src
 o3:p.o3=0∨p.o3=1∨p.o3=2
 g0:∃j,j<m∧p.g0=dD j
 g1:∃j,j<m∧p.g1=dD j
 w:eA p.w=some p.ln
theorem wA(p:Lp)(k:Nat)(h:k≤9):cq (frz [] 9) (p.headD++p.srcK k)=some (p.headD++p.srcK k)∧mQ (p.headD++p.srcK k):=by
 rcases Eg k h with rfl|rfl|rfl|rfl|rfl|rfl|rfl|rfl|rfl|rfl<;>exact⟨rfl,rfl⟩
theorem qc(m:Nat):frz [] 12 (.lst (gh 0 m))=some (.lst (gh 0 m)):=ae (Option.map D.lst) (gf (f:=frz [] 11) (g:=eg) (λ _=>rfl) (List.range' 0 m))
theorem lt6:∀i:Nat,i<6→i=0∨i=1∨i=2∨i=3∨i=4∨i=5:=by decide
theorem xw{g:Nat}(h:g<3):∃x,lX x∧dj OR g=some (.str (S x)):=by
 rcases Pf g h with rfl|rfl|rfl
 ·exact⟨"A",.inl rfl,rfl⟩
 ·exact⟨"B",.inr (.inl rfl),rfl⟩
 ·exact⟨"C",.inr (.inr rfl),rfl⟩
theorem Es{i:Nat}(h:i<6):∃w,lr (dD i)=some w∧eA w=some (dD i):=by
 rcases lt6 i h with rfl|rfl|rfl|rfl|rfl|rfl<;>exact⟨_,rfl,by kernel_rfl⟩
theorem BX(n:Nat){m i:Nat}(h0:0<m)(h6:m≤6)(hi:i<m){q:zQ}(hq:HM q):∃p,rQ m i q p∧∀st0,ay aP (n+1) 679 [.int (Int.ofNat i),zW q,.lst (gh 0 m)] st0=some (.lst p.srcD,st0):=by
 have h9 {a:Nat} (h:a<m):a≤9:=Nat.le_of_lt_succ (ao h (ad h6 (by decide)))
 have big {a:Nat} (h:a≤9):Nat.blt a 1000000=true:=bp.mpr (aA h (by decide))
 obtain⟨nm,a1,e1⟩:=xw hq.g
 obtain⟨src,a2,e2⟩:=xw hq.s
 obtain⟨w,e3,e4⟩:=Es (ao hi h6)
 obtain⟨z,hz,e5⟩:=qV (Int.ofNat q.2.2.2.2) (m:=3) (by decide)
 have el:aw (gh 0 m)=m:=(bf _).trans (qX 0 m)
 have hr (r:Nat):r%m<m:=Nat.mod_lt r h0
 have hf (a:Nat):(Int.ofNat a).fmod (Int.ofNat (aw (gh 0 m)))=Int.ofNat (a%m):=(ae (λ x=>(Int.ofNat a).fmod (Int.ofNat x)) el).trans (tv a m)
 have hk:q.2.2.1≤9:=Nat.le_of_lt_succ hq.k
 have l6:aw (gh 0 m)≤6:=ad (aM el) h6
 refine⟨Ik (dD i) w nm src q.2.2.1 q.2.2.2.1 q.2.2.2.2 (dD (q.2.2.2.1%m)) (dD (q.2.2.2.2%m)),⟨rfl,rfl,hk,a1,a2,?_,⟨_,hr _,rfl⟩,⟨_,hr _,rfl⟩,e4⟩,λ st0=>?_⟩
 ·have e:(Int.ofNat q.2.2.2.2).fmod 3=Int.ofNat z:=e5
  show(Int.ofNat q.2.2.2.2).fmod 3=0∨(Int.ofNat q.2.2.2.2).fmod 3=1∨(Int.ofNat q.2.2.2.2).fmod 3=2
  rw[e]
  exact(Pf z hz).imp (ae _) (Or.imp (ae _) (ae _))
 ·generalize hp:Ik (dD i) w nm src q.2.2.1 q.2.2.2.1 q.2.2.2.2 (dD (q.2.2.2.1%m)) (dD (q.2.2.2.2%m))=p
  obtain⟨e6,e7⟩:=z6 p q.2.2.1 hk
  subst hp
  exact eJ (f:=bj 103) (bU rfl (bU rfl (bU (qc m) rfl))) (st':=⟨[],0⟩) (Ge n (gh 0 m) i q.1 q.2.1 q.2.2.1 q.2.2.2.1 q.2.2.2.2 _ _ _ _ _ nm src w _ (big (ad (bJ hq.g) (by decide))) e1 (big (ad (bJ hq.s) (by decide))) e2 (cT (ad l6 (by decide))) (el.symm▸h0) (aA l6 (by decide)) (hf _) (big (h9 (hr _))) (jj (hr _)) (hf _) (big (h9 (hr _))) (jj (hr _)) (big (h9 hi)) (jj hi) e3 (big hk) e6 e7) (ae (Option.map D.lst) (wA _ _ hk).2)
noncomputable def PT(i:Nat):D:= .tup [.int (Int.ofNat i),eg i]
theorem G9(k:Nat):∀j,eF j (gh j k)=(List.range' j k).map PT:=by
 induction k with
 |zero=>exact λ _=>rfl
 |succ k ih=>exact λ j=>ae (PT j::·) (ih (j+1))
noncomputable def Ph(ls ps:List D)(i:Nat):Loc:=[(S "lines",.lst ls),(S "parts",.lst ps),(S "at",.int (Int.ofNat i)),(S "line",eg i)]
theorem Fc(n:Nat)(acc ls ps:List D)(i:Nat)(q:D)(s:List D)(st:Mine.St)(hb:Nat.blt i 1000000=true)(hq:dj ps i=some q)(h:ay aP n 679 [.int (Int.ofNat i),q,.lst ls] st=some (.lst s,st))(ha:aw acc≤90000)(k:Mine.Loc×List D→Mine.St→aD):
  af (zX (ay aP n) 39 fG pgE (Ph ls ps i,acc) st k)=af (k (Ph ls ps i,acc++[.tup [eg i,.lst s]]) st):=
 OM (s:=gv q st::gv (D.lst s) st::gv .none st::[]) (ew st ps i q hb hq) h (lW st ha)
structure Od(m:Nat)(Q:List zQ)(L:List Lp):Prop where
 num:D6 L
 len:L.length=m
 w:∀p∈L,eA p.w=some p.ln
 parts:wk L (Q.map Nf)
theorem Fb{m:Nat}{Q:List zQ}{L:List Lp}(hm:m=3∨m=4∨m=5∨m=6)(h0:0<m)(h6:m≤6)(hQ:Q.length=m)(hL:L.length=m)(h:∀i p,L[i]?=some p→∃q,Q[i]?=some q∧rQ m i q p):Od m Q L:=by
 have ln (i:Nat) (p:Lp) (hp:L[i]?=some p):p.ln=dD i:=(h i p hp).elim λ _ h=>h.2.ln
 have goal:∀g,(∃j,j<m∧g=dD j)→t6 L g:=λ g ⟨j,hj,e⟩=>⟨j,L[j]'(hL.symm▸hj),bz _,e▸ln j _ (bz _)⟩
 have mem (p:Lp) (hp:p∈L):∃i q,rQ m i q p:=(List.mem_iff_getElem?.mp hp).elim λ i hi=>(h i p hi).elim λ q h=>⟨i,q,h.2⟩
 refine⟨⟨⟨λ e=>?_,hL.symm▸h6,?_,λ p hp=>?_⟩,ln,hL.symm▸hm⟩,hL,λ p hp=>?_,⟨(aG ..).trans (hQ.trans hL.symm),λ i p hp=>?_⟩⟩
 ·subst e
  exact dK _ (hL.symm▸h0)
 ·refine List.pairwise_iff_getElem.mpr λ i j hi hj hij e=>?_
  rw[List.getElem_map,List.getElem_map,ln i _ (bz _),ln j _ (bz _)]at e
  exact aL hij (jm e)
 ·obtain⟨i,q,o⟩:=mem p hp
  exact⟨o.le,o.nm,o.src,o.o3,goal _ o.g0,goal _ o.g1⟩
 ·obtain⟨i,q,o⟩:=mem p hp
  exact o.w
 ·obtain⟨q,hq,o⟩:=h i p hp
  exact⟨(Nf q).2,(cJ ..).trans ((ae (Option.map Nf) hq).trans (ae (λ k=>some (k,(Nf q).2)) o.kind.symm))⟩
noncomputable def lw5(ds:List D)(m:Nat)(Q:List zQ)(L:List Lp):Loc:=J3 ds m Q [(S "program",.lst (L.map Lp.lineD))]
theorem B5(n:Nat)(ds:List D){m:Nat}(hm:m=3∨m=4∨m=5∨m=6){Q:List zQ}(hQ:Q.length=m)(hok:∀q∈Q,HM q)(st:St):∃L:List Lp,Od m Q L∧∀orc k,af (ej (ay aP (n+1)) orc 4 1 (J3 ds m Q []) st k)=af (k (lw5 ds m Q L) st):=by
 have hh:0<m∧m≤6:=by rcases hm with rfl|rfl|rfl|rfl<;>decide
 obtain⟨h0,h6⟩:=hh
 obtain⟨pf,hpf⟩:=Classical.axiomOfChoice (r:=λ i p=>i<m→∃q,Q[i]?=some q∧rQ m i q p∧∀st0,ay aP (n+1) 679 [.int (Int.ofNat i),zW q,.lst (gh 0 m)] st0=some (.lst p.srcD,st0)) λ i=>by
  by_cases hi:i<m
  ·have e:Q[i]?=some (Q[i]'(hQ.symm▸hi)):=bz _
   obtain⟨p,h1,h2⟩:=BX n h0 h6 hi (hok _ (List.mem_of_getElem? e))
   exact⟨p,λ _=>⟨_,e,h1,h2⟩⟩
  ·exact⟨Ik 0 (S "") "" "" 0 0 0 0 0,λ h=>absurd h hi⟩
 refine⟨(List.range' 0 m).map pf,Fb hm h0 h6 hQ ((aG ..).trans List.length_range') λ i p hp=>?_,λ orc k=>?_⟩
 ·rw[cJ]at hp
  obtain⟨j,hj,rfl⟩:=bL.mp hp
  have hi:i<m:=Nat.lt_of_lt_of_eq (cy.mp hj).1 List.length_range'
  rw[List.getElem?_range' hi,gm,bC]at hj
  obtain rfl:=an hj
  exact(hpf i hi).imp λ q h=>⟨h.1,h.2.1⟩
 ·have e:af (ej (ay aP (n+1)) orc 4 1 (J3 ds m Q []) st k)=af (t9 (ay aP (n+1)) 39 fG pgE (eF 0 (gh 0 m)) (J3 ds m Q []) st λ d st=>k (J3 ds m Q [(Mine.S "program",d)]) st):=by kernel_rfl
  have ef:(List.range' 0 m).flatMap (λ i=>[(pf i).lineD])=((List.range' 0 m).map pf).map Lp.lineD:=(fx ..).trans (fz (g:=Lp.lineD) (f:=pf)).symm
  rw[G9]at e
  refine e.trans ((iQ (el:=PT) (f:=Ph (gh 0 m) (Q.map zW)) (g:=λ i=>[(pf i).lineD]) (λ x y=>by kernel_rfl) (λ _=>aq _) (λ y=>by kernel_rfl) (λ i hi acc ha k=>?_) (ad (aM List.length_range') (ad h6 (by decide))) _).trans (ae (λ l=>af (k (J3 ds m Q [(Mine.S "program",.lst l)]) st)) ef))
  have hi:i<m:=bC m▸(List.mem_range'_1.mp hi).2
  obtain⟨q,e1,o,e2⟩:=hpf i hi
  have el:D.tup [eg i,.lst (pf i).srcD]=(pf i).lineD:=ae (λ x=>D.tup [.int x,.lst (pf i).srcD]) o.ln.symm
  exact el▸Fc (n+1) acc _ _ i (zW q) _ st (bp.mpr (dH (ao hi h6) (by decide))) ((hZ ..).trans ((cJ ..).trans (ae (Option.map zW) e1))) (e2 st) ha k
end
section
open PySem.Spec
theorem Ih(st:St){d:D}{ds:List D}{b:Bool}(h:mu d ds=some b):mB (dF st .In d (.lst ds)) st=some (.bool b,st):=nN st h
theorem pZ(st:St){d:D}{ds:List D}{b:Bool}(h:mu d ds=some b):mB (dF st .NotIn d (.lst ds)) st=some (.bool !b,st):=nN st (ae (Option.map (!·)) h)
noncomputable def ke(h:Hn):List D:=[.int h.2.1,.int h.2.2.1,.int h.2.2.2]
noncomputable def oD(h:Hn):D:= .tup [eg h.1,.lst (ke h)]
structure LX where
 ds:List D
 Q:List zQ
 L:List Lp
 N:Ds
 G:Ds
 ss:List D
 H:List Hn
 F:List Nat
 U:List Nat
 il:List D
section
variable(y:LX)
noncomputable def LX.m:Nat:=y.L.length
noncomputable def LX.ns:List D:=y.H.map oD
noncomputable def LX.pa:List D:=FD (y.H.map (·.1))
noncomputable def LX.l(t:Loc):Loc:=(S "script",.lst y.ds)::(S "_law_names",.lst OR)::(S "bag",.ob 1)::(S "lines",.lst (gh 0 y.m))::(S "parts",.lst (y.Q.map zW))::(S "program",.lst (y.L.map Lp.lineD))::(S "names",.dct y.N)::(S "goals",.dct y.G)::(S "steps",.lst y.ss)::(S "notes",.lst y.ns)::(S "path",.lst y.pa)::(S "met",.lst (FD y.F))::(S "far",.lst (FD y.U))::(S "idle",.lst y.il)::t
noncomputable def LX.t(j:Nat):Loc:=(y.l []).take j
end
noncomputable def Cy(loc:Loc)(k:Loc→St→aD)(d:D)(st:St):aD:=mc (dF st .NotEq d (.lst [])) st λ x st=>cond x (.val (.bool false) st) (k loc st)
theorem nK{α:Type}{el:α→D}{f:α→Loc}{run:ee}{m:Nat}{ns:cr}{e:Expr}{xs:List α}{loc loc':Loc}{st:St}(hff:∀x,L4 (B3 ns e) el f (f x))(h0:L4 (B3 ns e) el f (dR (j3 e) loc))(step:∀x∈xs,∀acc k,af (zX run m ns e (f x,acc) st k)=af (k (f x,acc) st))(hl:xs.length≤900)(k:Loc→St→aD):af (t9 run m ns e (xs.map el) loc st (Cy loc' k))=af (k loc' st):=
 (iQ (g:=λ _=>[]) hff (λ _=>bo _) h0 (λ x hx acc _ k=>(step x hx acc k).trans (ae (λ a=>af (k (f x,a) st)) (aH acc).symm)) (ad hl (by decide)) _).trans ((ae (λ l=>af (Cy loc' k (.lst l) st)) (List.flatMap_eq_nil_iff.mpr λ _ _=>rfl)).trans (by kernel_rfl))
noncomputable def Kw:Stmt→Expr
 | .If t _ _ _=>t
 |_=>sF
noncomputable def K7:Expr→Expr
 | .Compare a _ _ _=>a
 |e=>e
noncomputable def paE:Expr:=HH (bZ nZ 8)
noncomputable def bdE:Expr:=K7 (Kw (bZ nZ 9))
noncomputable def mfE:Expr:=K7 (Kw (bZ nZ 11))
noncomputable def lnV(h:Hn)(t:Loc):Loc:=(S "line",eg h.1)::(S "values",.lst (ke h))::t
noncomputable def htm(y:LX)(t:mL):Loc:=[(S "steps",.lst y.ss),(S "here",.int t.1),(S "there",.int t.2.1),(S "many",.int t.2.2)]
noncomputable def fml(y:LX)(i:Nat):Loc:=[(S "far",.lst (FD y.U)),(S "met",.lst (FD y.F)),(S "line",eg i)]
section
variable(n:Nat)(y:LX)(st:Mine.St)(orc:zY)(k:Mine.Loc→Mine.St→aD)
theorem Kn(h:ay aP n 98 [.lst (y.L.map Lp.lineD)] st=some (.tup [.dct y.N,.dct y.G],st)):af (ej (ay aP n) orc 5 1 (y.t 6) st k)=af (k (y.t 8) st):=fK (s:=gv (.tup [.dct y.N,.dct y.G]) st::[]) h
theorem Km(h:ay aP n 684 [.lst (gh 0 y.m),.lst (y.Q.map zW),.dct y.G] st=some (.lst y.ss,st))(h2:orc [.lst (y.L.map Lp.lineD),.int 50] st=some (.lst y.ns,st)):af (ej (ay aP n) orc 6 1 (y.t 8) st k)=af (k (y.t 10) st):=rX (s:=gv (.lst y.ss) st::gv (.lst y.ns) st::[]) h h2
theorem Kl(h:gw (.lst y.ns) (.lst [])=some false):af (ej (ay aP n) orc 7 1 (y.t 10) st k)=af (k (y.t 10) st):=fK (s:=au 1 (gv (.bool false) st::[])) (nN (o:=dF st .Eq (.lst y.ns) (.lst [])) st h)
theorem Kk(hl:y.H.length≤900):af (ej (ay aP n) orc 8 1 (y.t 10) st k)=af (k (y.t 11) st):=by
 have e:af (ej (ay aP n) orc 8 1 (y.t 10) st k)=af (t9 (ay aP n) 39 fG paE y.ns (y.t 10) st λ d st=>k (y.t 10++[(S "path",d)]) st):=by kernel_rfl
 exact e.trans ((iQ (el:=oD) (f:=λ h=>lnV h []) (g:=λ h=>[eg h.1]) (λ x y=>by kernel_rfl) (λ _=>aq _) (λ y=>by kernel_rfl) (λ h _ acc ha k=>fK (s:=gv .none st::[]) (lW st ha)) (ad hl (by decide)) _).trans (ae (λ l=>af (k (y.t 10++[(S "path",.lst l)]) st)) ((fx ..).trans (fz (g:=eg) (f:=λ h:Hn=>h.1)).symm)))
theorem Kj{ts:List mL}(h:ay aP n 655 [.lst y.pa] st=some (.lst (ts.map eI),st))(hl:ts.length≤900)(ht:∀t∈ts,mu (.tup [.int t.1,.int t.2.1]) y.ss=some true):af (ej (ay aP n) orc 9 1 (y.t 11) st k)=af (k (y.t 11) st):=
 Eq.trans (fK (fin:=t9 (ay aP n) 37 fG bdE (ts.map eI) (y.t 11) st (Cy (y.t 11) k)) (s:=gv (.lst (ts.map eI)) st::[]) h) (nK (f:=htm y) (λ x y=>by kernel_rfl) (λ y=>by kernel_rfl) (λ t h acc k=>fK (s:=gv (.bool false) st::[]) (pZ st (ht t h))) hl k)
theorem Gn(h:ay aP n 691 [.lst y.ss,.int 10] st=some (.lst (FD y.F),st))(h2:ay aP n 660 [.lst (gh 0 y.m),.lst y.pa] st=some (.lst (FD y.U),st))(h3:dj (gh 0 y.m) 0=some (.int 10)):af (ej (ay aP n) orc 10 1 (y.t 11) st k)=af (k (y.t 13) st):=OM (s:=gv (.int 10) st::gv (.lst (FD y.F)) st::gv (.lst (FD y.U)) st::[]) (ew st (gh 0 y.m) 0 _ rfl h3) h h2
theorem Gm(hl:y.m≤900)(ht:∀i,i<y.m→i∈y.F∨i∈y.U):af (ej (ay aP n) orc 11 1 (y.t 13) st k)=af (k (y.t 13) st):=by
 have e:af (ej (ay aP n) orc 11 1 (y.t 13) st k)=af (t9 (ay aP n) 37 fG mfE (gh 0 y.m) (y.t 13) st (Cy (y.t 13) k)):=by kernel_rfl
 refine e.trans (nK (f:=fml y) (λ x y=>by kernel_rfl) (λ y=>by kernel_rfl) (λ i hi acc k=>?_) (ad (aM List.length_range') hl) k)
 obtain⟨b,hb,hm⟩:=Ed y.F i
 induction b using Bool.casesOn with
 |true=>exact fK (s:=gv (.bool false) st::[]) (pZ st hb)
 |false=>
  obtain⟨c,hc,hn⟩:=Ed y.U i
  obtain rfl:=hn.mpr ((ht i (bC y.m▸(List.mem_range'_1.mp hi).2)).resolve_left λ h=>ftK (hm.mpr h))
  exact rX (s:=gv (.bool true) st::gv (.bool false) st::[]) (pZ st hb) (pZ st hc)
theorem Gk(h:ay aP n 103 [.lst (y.L.map Lp.lineD)] st=some (.lst y.il,st)):af (ej (ay aP n) orc 12 1 (y.t 13) st k)=af (k (y.t 14) st):=fK (s:=gv (.lst y.il) st::[]) h
end
end
section
open PySem.Spec
noncomputable def OV:Stmt:=bZ nZ 13
noncomputable def Ew(i:Nat):Stmt:=bZ (eC OV) i
noncomputable def OY:Expr:=HH (Ew 0)
noncomputable def zpS:Stmt:=Ew 2
noncomputable def boR:Expr→Expr
 | .BoolOp _ vs _=>vs[1]?.elim sF K7
 |_=>sF
noncomputable def vzE:Expr:=boR (Kw (Ew 1))
theorem FN(st:St){es:Ds}{x:Str}{d v:D}(h:gu (aR es (.inr x)) d=v):ku .get st (.dct es) [.str x,d]=some (v,st):=h▸rfl
theorem JM(st:St)(w:Int):mB (dF st .NotEq (.int w) (.int w)) st=some (.bool false,st):=nN st (ae (λ b=>some (!b)) (fX w))
noncomputable def nC(u:Lp×String):Bool:=ua 8 (pA u) (.str (S "set"))
noncomputable def eZ(u:Lp×String):List D:=cond (nC u) [.int u.1.ln] []
theorem An(u:Lp×String):aw (eZ u)≤1:=by
 unfold eZ
 induction nC u using Bool.casesOn<;>exact bu rfl
noncomputable def zpD(p:Hn×Hn):D:= .tup [oD p.1,oD p.2]
inductive LU:Loc→Prop
 |n:LU []
 |s (l v r:D):LU [(S "line",l),(S "values",v),(S "later",r)]
inductive LT:Loc→Prop
 |n:LT []
 |s (t:D):LT [(S "told",t)]
 |u (t l v r:D):LT [(S "told",t),(S "line",l),(S "values",v),(S "later",r)]
theorem LU.t{u:Loc}(h:LU u)(t:D):LT ((S "told",t)::u):=by
 induction h with
 |n=>exact .s t
 |s l v r=>exact .u t l v r
noncomputable def pn(j:Nat)(x:Str)(t:Loc):Loc:=(S "place",.int (Int.ofNat j))::(S "name",.str x)::t
noncomputable def pt(j:Nat)(x:Str)(td:List D)(u:Loc):Loc:=pn j x ((S "told",.lst td)::u)
structure mz(y:LX)(j:Nat)(x:Str)(v:Hn→Int)(us:List (Lp×String)):Prop where
 big:Nat.blt j 1000000=true
 look:gu (aR y.N (.inr x)) (.lst [])= .lst (us.map ft)
 few:us.length≤900
 how:∀u∈us,gw (.str (S u.2)) (.str (S "set"))=some (nC u)
 nth:∀h,dj (ke h) j=some (.int (v h))
 told:∀p∈nb y.H,mu (eg p.1.1) (us.flatMap eZ)=some (i9 (eg p.1.1) (us.flatMap eZ))
 same:∀p∈nb y.H,i9 (eg p.1.1) (us.flatMap eZ)=false→v p.2=v p.1
 hl:y.H.length≤900
 zip:o8 y.ns (iX 1 y.ns)=(nb y.H).map zpD
 idle:mu (.str x) y.il=some false∨mu (.str x) y.il=some true∧∀h∈y.H,v h=0
section
variable(n:Nat){y:LX}{j:Nat}{x:Str}(st:St){v:Hn→Int}{us:List (Lp×String)}{td:List D}{t u:Loc}
theorem OU(ok:mz y j x v us)(ht:LT t):∃u,LU u∧∀k,af (br (ec aP (ay aP n) 39 fG) [Ew 0] (y.l (pn j x t)) st k)=af (k (y.l (pt j x (us.flatMap eZ) u)) st):=by
 have go {t u:Loc} (e:∀k,af (br (ec aP (ay aP n) 39 fG) [Ew 0] (y.l (pn j x t)) st k)=af (t9 (ay aP n) 38 fG OY (us.map ft) (y.l (pn j x t)) st λ d st=>k (y.l (pn j x ((S "told",d)::u))) st)) (h0:L4 (B3 fG OY) ft lh (dR (j3 OY) (y.l (pn j x t)))) (k:Loc→St→aD):af (br (ec aP (ay aP n) 39 fG) [Ew 0] (y.l (pn j x t)) st k)=af (k (y.l (pt j x (us.flatMap eZ) u)) st):=by
  refine(e k).trans (iQ (λ x y=>by kernel_rfl) An h0 (λ w hw acc ha k=>?_) (ad ok.few (by decide)) _)
  have hb:=ok.how w hw
  unfold eZ
  generalize nC w=b at hb
  induction b using Bool.casesOn with
  |true=>exact rX (s:=gv (.bool true) st::gv .none st::[]) (nN (o:=dF st .Eq (.str (S w.2)) (.str (S "set"))) st hb) (lW st ha)
  |false=>exact fK (s:=gv (.bool false) st::[]) (nN (o:=dF st .Eq (.str (S w.2)) (.str (S "set"))) st hb) (by rw[cond_false,aH];kernel_rfl)
 have hg:=FN st ok.look
 induction ht with
 |n=>exact⟨[],.n,go (λ k=>fK (s:=gv (.lst (us.map ft)) st::[]) hg) λ x=>by kernel_rfl⟩
 |s t=>exact⟨[],.n,go (λ k=>fK (s:=gv (.lst (us.map ft)) st::[]) hg) λ x=>by kernel_rfl⟩
 |u t l v r=>exact⟨_,.s l v r,go (λ k=>fK (s:=gv (.lst (us.map ft)) st::[]) hg) λ x=>by kernel_rfl⟩
noncomputable def plv(j:Nat)(h:Hn):Loc:=(S "place",.int (Int.ofNat j))::lnV h []
theorem OT(ok:mz y j x v us)(hu:LU u)(k:Loc→St→aD):af (br (ec aP (ay aP n) 39 fG) [Ew 1] (y.l (pt j x td u)) st k)=af (k (y.l (pt j x td u)) st):=by
 rcases ok.idle with hi|⟨hi,hz⟩
 ·induction hu<;>exact fK (s:=gv (.bool false) st::[]) (Ih st hi)
 ·refine Eq.trans (b:=af (t9 (ay aP n) 35 fG vzE y.ns (y.l (pt j x td u)) st (Cy (y.l (pt j x td u)) k))) ?_ (nK (f:=plv j) (λ x y=>by kernel_rfl) (λ y=>by induction hu<;>kernel_rfl) (λ h hm acc k=>?_) ok.hl k)
  ·induction hu<;>exact fK (s:=gv (.bool true) st::[]) (Ih st hi)
  ·exact fK (s:=gv (.int 0) st::au 1 []) (ew st (ke h) j _ ok.big (hz h hm▸ok.nth h))
theorem En(ok:mz y j x v us)(Z:List (Hn×Hn)):∀u,LU u→(∀p∈Z,p∈nb y.H)→∃u',LU u'∧∀k,af (nS (ay aP n) 38 (bj 107) zpS (Z.map zpD) (y.l (pt j x (us.flatMap eZ) u)) st k)=af (k (y.l (pt j x (us.flatMap eZ) u')) st):=by
 induction Z with
 |nil=>exact λ u hu _=>⟨u,hu,λ _=>rfl⟩
 |cons p Z ih=>
  intro u hu h
  have h1:=ok.told p (h p (.head _))
  have h2:=ok.same p (h p (.head _))
  generalize us.flatMap eZ=td at h1 h2 ih
  obtain⟨u',hu',e⟩:=ih _ (.s (eg p.1.1) (.lst (ke p.1)) (oD p.2)) λ q hq=>h q (.tail _ hq)
  refine⟨u',hu',λ k=>(cM (z1:=y.l (pt j x td [(S "line",eg p.1.1),(S "values",.lst (ke p.1)),(S "later",oD p.2)])) ?_ (λ k=>?_) k).trans (e k)⟩
  ·induction hu<;>kernel_rfl
  ·generalize i9 (eg p.1.1) td=b at h1 h2
   induction b using Bool.casesOn with
   |true=>exact fK (s:=gv (.bool false) st::[]) (pZ st h1)
   |false=>exact OL (s:=gv (.bool true) st::au 1 (gv (.int (v p.1)) st::gv (.int (v p.1)) st::gv (.bool false) st::[])) (pZ st h1) (ew st (ke p.2) j _ ok.big (h2 rfl▸ok.nth p.2)) (ew st (ke p.1) j _ ok.big (ok.nth p.1)) (JM st (v p.1))
theorem qz(ok:mz y j x v us)(ht:LT t):∃t',LT t'∧∀k,af (br (ec aP (ay aP n) 39 fG) (eC OV) (y.l (pn j x t)) st k)=af (k (y.l (pn j x t')) st):=by
 obtain⟨u,hu,e1⟩:=OU n st ok ht
 obtain⟨u',hu',e2⟩:=En n st ok (nb y.H) u hu λ _ h=>h
 have hs:small y.ns=true:=cT (bf y.ns▸aG (as:=y.H) oD▸ad ok.hl (by decide))
 refine⟨_,hu'.t _,λ k=>(e1 λ loc st=>br (ec aP (ay aP n) 39 fG) [Ew 1] loc st λ loc st=>br (ec aP (ay aP n) 39 fG) [Ew 2] loc st k).trans ((OT n st ok hu _).trans (Eq.trans ?_ (e2 k)))⟩
 rw[←ok.zip]
 generalize us.flatMap eZ=td
 induction hu<;>exact fK (s:=gv (.lst (iX 1 y.ns)) st::[]) (w1 st y.ns hs)
end
theorem Gj(n:Nat){y:LX}(st:St)(orc:zY){v0 v1 v2:Hn→Int}{u0 u1 u2:List (Lp×String)}(h0:mz y 0 (S "A") v0 u0)(h1:mz y 1 (S "B") v1 u1)(h2:mz y 2 (S "C") v2 u2)(k:Loc→St→aD):af (ej (ay aP n) orc 13 2 (y.t 14) st k)= .val (.bool true) st:=by
 obtain⟨t1,ht1,e1⟩:=qz n st h0 .n
 obtain⟨t2,ht2,e2⟩:=qz n st h1 ht1
 obtain⟨t3,ht3,e3⟩:=qz n st h2 ht2
 have e:af (ej (ay aP n) orc 13 2 (y.t 14) st k)=af (nS (ay aP n) 39 (bj 107) OV (eF 0 OR) (y.l []) st λ loc st=>br (C5 aP (ay aP n) 696 orc (S "_law_noted") fG) [bZ nZ 14] loc st k):=by kernel_rfl
 refine e.trans ((cM (z1:=y.l (pn 0 (S "A") [])) (by kernel_rfl) e1 _).trans ((cM (z1:=y.l (pn 1 (S "B") t1)) ?_ e2 _).trans ((cM (z1:=y.l (pn 2 (S "C") t2)) ?_ e3 _).trans ?_)))
 ·induction ht1<;>kernel_rfl
 ·induction ht2<;>kernel_rfl
 ·kernel_rfl
end
section
open PySem.Spec
variable{s:List D}{us:List (Lp×String)}
section
variable{α:Type}{a b:α}
theorem FR(l:List α):nb (l++[a]++[b])=nb (l++[a])++[(a,b)]:=by
 induction l with
 |nil=>rfl
 |cons c l ih=>
  induction l using List.casesOn with
  |nil=>rfl
  |cons d l=>exact ae ((c,d)::·) ih
theorem BI{p:α×α}{l:List α}(h:p∈nb l):p.1∈l∧p.2∈l:=(List.of_mem_zip h).imp_right List.mem_of_mem_tail
theorem JR{β:Type}(f:α→β)(l:List α):nb (l.map f)=(nb l).map λ p=>(f p.1,f p.2):=by
 unfold nb
 rw[←List.map_tail,List.zip_map]
 rfl
end
section
variable{L:List Lp}{H:List Hn}
theorem xa(g:eG L H):∀p∈nb H,Oi L p.1 p.2:=by
 induction g with
 |nil=>exact λ _ h=>absurd h aQ
 |one _ _=>exact λ _ h=>absurd h aQ
 |snoc _ l _ ih=>exact λ p h=>(ca.mp (FR .. ▸h)).elim (ih p) λ h=>aC.mp h▸l
theorem CI{F:List Nat}(so:js L s)(M:Qg L s F)(g:eG L H):∀h∈H,h.1∈F:=by
 induction g with
 |nil=>exact λ _ h=>absurd h aQ
 |one _ e=>exact λ h hh=>aC.mp hh▸e▸M.zero
 | @snoc H h h' g l o ih=>
  have hm:h∈H++[h]:=b7 _ (.head _)
  exact λ p hp=>(ca.mp hp).elim (ih p) λ hp=>aC.mp hp▸M.all _ _ (so.all _ _ (ig g h hm).lt o.lt l.stp) (ih h hm)
theorem Fm(nu:D6 L)(g:eG L H):H.map (qL L)=H.map oD:=List.map_congr_left λ h hh=>by
 have e:=bz (ig g h hh).lt
 unfold qL Gc
 rw[e]
 exact ae (λ i=>D.tup [.int i,.lst (ke h)]) (nu.ln _ _ e)
theorem MN(hn:H≠[]):gw (.lst (H.map oD)) (.lst [])=some false:=by
 obtain⟨xs,hx⟩:=sT (f:=o6 7) (ds:=H.map oD) λ d hd=>by
  obtain⟨h,_,rfl⟩:=aS.mp hd
  exact⟨_,rfl⟩
 show(Option.map PyData.list (cq (o6 7) (H.map oD))).bind _=_
 rw[hx]
 induction H using List.casesOn with
 |nil=>exact absurd rfl hn
 |cons h H=>rfl
theorem Gf(i:Nat):ua 8 (eg i) (eg i)=true:=fX (dD i)
theorem Cv(so:js L s){i j:Nat}(h:ix i j∈s):mu (ix i j) s=some true:=
 (gQ (x:= .tuple [.int (dD i),.int (dD j)]) rfl λ e he=>by
  obtain⟨a,c,_,_,rfl⟩:=so.shape e he
  exact⟨_,rfl⟩).trans (ae some (jq s h (aE.mpr ⟨fX (dD i),aE.mpr ⟨fX (dD j),rfl⟩⟩)))
end
inductive JX:Nat→String→Prop
 |a:JX 0 "A"
 |b:JX 1 "B"
 |c:JX 2 "C"
theorem Ao{e:D}(h:e∈us.flatMap eZ):∃z,o6 8 e=some z:=by
 obtain⟨u,_,hu⟩:=cR.mp h
 unfold eZ at hu
 induction hb:nC u using Bool.casesOn with
 |false=>exact absurd (hb▸hu:e∈cond false _ []) aQ
 |true=>
  obtain rfl:=aC.mp (hb▸hu:e∈cond true [D.int u.1.ln] [])
  exact⟨_,rfl⟩
theorem EC{i:Int}(h:.tup [.int i,.str (S "set")]∈us.map ft):.int i∈us.flatMap eZ:=by
 obtain⟨u,hu,e⟩:=aS.mp h
 have at_ (n:Nat):=ae (λ d=>(dE ⟨[],0⟩ d).bind λ l=>dj l n) e
 have e1:some (D.str (S u.2))=some (.str (S "set")):=at_ 1
 have hb:nC u=true:=(ae (λ d=>ua 8 d (.str (S "set"))) (an e1)).trans rfl
 refine cR.mpr ⟨u,hu,?_⟩
 unfold eZ
 rw[hb]
 exact aC.mpr (an (at_ 0)).symm
theorem H0{d:D}(h:Gp d):∃z,o6 8 d=some z:=by
 obtain⟨x,rfl|rfl|rfl|rfl,rfl⟩:=h<;>exact⟨_,rfl⟩
theorem MY{L:List Lp}{N G:Ds}(X:XR L N G)(x:String):∃us:List (Lp×String),gu (aR N (.inr (S x))) (.lst [])= .lst (us.map ft)∧us.length≤900∧(∀u∈us,u.2= "set"∨u.2= "read")∧∀p∈L,p.sets x→.int p.ln∈us.flatMap eZ:=by
 induction hk:aR N (.inr (S x))using Option.casesOn with
 |none=>exact⟨[],rfl,bo _,λ _ h=>absurd h aQ,λ p hp h=>(X.sets p hp x h).rec λ _ e _=>nsK (hk.symm.trans e)⟩
 |some v=>
  obtain⟨us,h,hl,hu⟩:=BN X.nm hk
  refine⟨us,ae (gu · _) (hk.symm.trans h),hl,λ u h=>(hu u h).2,λ p hp hs=>?_⟩
  obtain⟨ds,e,hm⟩:=X.sets p hp x hs
  have e:ds=us.map ft:=an (ae (λ o=>Option.bind o (dE ⟨[],0⟩)) (e.symm.trans h))
  exact EC (e▸hm)
theorem ve{y:LX}(nu:D6 y.L)(X:XR y.L y.N y.G)(g:eG y.L y.H)(I:LI y.L y.il)(hl:y.H.length≤900){j:Nat}{x:String}(h:JX j x):∃v us,mz y j (S x) v us:=by
 obtain⟨us,h1,h2,h3,h4⟩:=MY X x
 have hx:lX x:=by
  induction h with
  |a=>exact .inl rfl
  |b=>exact .inr (.inl rfl)
  |c=>exact .inr (.inr rfl)
 refine⟨λ h=>sx h x,us,⟨?_,h1,h2,λ u hu=>?_,λ h'=>?_,λ p _=>gQ (x:= .int (dD p.1.1)) rfl λ _=>Ao,λ p hp hn=>?_,hl,zZ oD y.H,?_⟩⟩
 ·induction h<;>rfl
 ·unfold nC pA
  rcases h3 u hu with e|e<;>rw[e]<;>rfl
 ·induction h<;>rfl
 ·have lt:=(ig g _ (BI hp).1).lt
  have e:=bz lt
  refine(xa g p hp).same x hx _ e λ hs=>?_
  have t:=h4 _ (List.getElem_mem lt) hs
  rw[nu.ln _ _ e]at t
  exact tfK ((jq _ t (Gf _)).symm.trans hn)
 ·obtain⟨z,hz⟩:=H0 ⟨x,.inr hx,rfl⟩
  have e:=gQ (ds:=y.il) hz λ e he=>H0 (I.nm e he)
  induction hb:i9 (.str (S x)) y.il using Bool.casesOn with
  |false=>exact .inl (e.trans (ae some hb))
  |true=>
   refine .inr ⟨e.trans (ae some hb),λ h hh=>(ig g h hh).zero x hx (I.no x ?_)⟩
   obtain⟨d,hd,he⟩:=oS _ hb
   obtain⟨z,_,rfl⟩:=I.nm d hd
   have ez:S z=S x:=gn he
   exact ez▸hd
end
section
open PySem.Spec
variable{L:List Lp}
theorem su(h:∀p∈L,p.kind≤9):frz [] 12 (.lst (L.map Lp.lineD))=some (.lst (L.map Lp.lineD)):=ae (Option.map D.lst) (kz λ d hd=>by
 obtain⟨p,hp,rfl⟩:=aS.mp hd
 exact ae (Option.map D.tup) (bU (f:=frz [] 10) (x:= .int p.ln) rfl (bU (x:= .lst p.srcD) (ae (Option.map D.lst) (wA p _ (h p hp)).1) (gL _))))
theorem DH{G:Ds}(h:BR (JU L) (JU L) G):frz [] 12 (.dct G)=some (.dct G):=
 ae (Option.map D.dct) ((p5 (f:=frz [] 11) (g:=id) λ k v hk=>by
  obtain⟨ds,rfl,_,hm⟩:=(h.hv k v hk).2
  exact ae (Option.map D.lst) (kz λ d hd=>by
   obtain⟨p,_,rfl⟩:=hm d hd
   rfl)).trans (ae some (List.map_id'' (λ _=>rfl) G)))
theorem yj(n:Nat)(h:D6 L)(hw:∀p∈L,eA p.w=some p.ln):∃H orc,H≠[]∧eG L H∧H.length≤50∧D4 aP (n+12) 15 (bj 106) orc∧∀st,orc [.lst (L.map Lp.lineD),.int 50] st=some (.lst (H.map oD),st):=by
 obtain⟨H,st',hne,g,hH,hN,hd⟩:=ym n h.ok hw
 rw[Fm h g]at hN hd
 classical
 refine⟨H,λ ds st=>if ds=[.lst (L.map Lp.lineD),.int 50]then some (.lst (H.map oD),st)else none,hne,g,hH,λ ds st r hr=>?_,λ st=>aZ rfl⟩
 by_cases e:ds=[.lst (L.map Lp.lineD),.int 50]
 ·obtain rfl:=an ((aZ e).symm.trans hr)
  exact⟨rfl,_,_,_,e▸bU (su λ p hp=>(h.ok.parts p hp).kind) rfl,by kernel_rfl,hN,hd⟩
 ·exact nsK ((aI e).symm.trans hr)
noncomputable def H8(n:Nat)(orc:zY)(k:Loc→St→aD)(loc:Loc)(st:St):aD:=ej (ay aP n) orc 5 1 loc st λ loc st=>ej (ay aP n) orc 6 1 loc st λ loc st=>ej (ay aP n) orc 7 1 loc st λ loc st=>ej (ay aP n) orc 8 1 loc st λ loc st=>ej (ay aP n) orc 9 1 loc st λ loc st=>ej (ay aP n) orc 10 1 loc st λ loc st=>ej (ay aP n) orc 11 1 loc st λ loc st=>ej (ay aP n) orc 12 1 loc st λ loc st=>ej (ay aP n) orc 13 2 loc st k
theorem B4(n:Nat){y:LX}{orc:zY}{st:St}(nu:D6 y.L)(hz:cq (frz [] 12) [.lst (y.L.map Lp.lineD)]=some [.lst (y.L.map Lp.lineD)])(X:XR y.L y.N y.G)(so:js y.L y.ss)(hne:y.H≠[])(g:eG y.L y.H)(hH:y.H.length≤50)(e3:ay aP (n+17) 98 [.lst (y.L.map Lp.lineD)] st=some (.tup [.dct y.N,.dct y.G],st))(e4:ay aP (n+17) 684 [.lst (gh 0 y.m),.lst (y.Q.map zW),.dct y.G] st=some (.lst y.ss,st))(ho:orc [.lst (y.L.map Lp.lineD),.int 50] st=some (.lst y.ns,st))(M:Qg y.L y.ss y.F)(e5:ay aP (n+17) 691 [.lst y.ss,.int 10] st=some (.lst (FD y.F),st))(hU:∀i,i<y.m→i∉y.H.map (·.1)→i∈y.U)(e7:ay aP (n+17) 660 [.lst (gh 0 y.m),.lst y.pa] st=some (.lst (FD y.U),st))(I:LI y.L y.il)(e8:ay aP (n+17) 103 [.lst (y.L.map Lp.lineD)] st=some (.lst y.il,st))(k:Loc→St→aD):af (H8 (n+17) orc k (y.t 6) st)= .val (.bool true) st:=by
 obtain⟨ts,ht,hts,e6⟩:=tU (n+16) (y.H.map (·.1)) (ad (aM (aG ..)) hH) st
 have few:y.H.length≤900:=ad hH (by decide)
 refine(Kn _ y st orc _ e3).trans ((Km _ y st orc _ e4 ho).trans ((Kl _ y st orc _ (MN hne)).trans ((Kk _ y st orc _ few).trans ((Kj _ y st orc _ e6 (bf ts▸hts) λ t h=>?_).trans ((Gn _ y st orc _ e5 e7 (jj (List.length_pos_iff.mpr nu.ok.ne))).trans ((Gm _ y st orc _ (ad nu.ok.len (by decide)) λ i hi=>?_).trans ((Gk _ y st orc _ e8).trans ?_)))))))
 ·obtain⟨p,hp,h3,h4⟩:=ht t h
  rw[JR]at hp
  obtain⟨q,hq,rfl⟩:=aS.mp hp
  have hm:=BI hq
  rw[h3,h4]
  exact Cv so (so.all _ _ (ig g _ hm.1).lt (ig g _ hm.2).lt (xa g q hq).stp)
 ·by_cases h:i∈y.F
  ·exact .inl h
  ·exact .inr (hU i hi λ hp=>(aS.mp hp).elim λ q e=>h (e.2▸CI so M g q e.1))
 ·obtain⟨_,_,h0⟩:=ve nu X g I few .a
  obtain⟨_,_,h1⟩:=ve nu X g I few .b
  obtain⟨_,_,h2⟩:=ve nu X g I few .c
  exact Gj _ st orc h0 h1 h2 k
noncomputable def Oj(n:Nat)(is:List Int):Prop:=∃orc,D4 aP (n+12) 15 (bj 106) orc∧∃st,∀k,af (br (C5 aP (ay aP (n+17)) 696 orc (S "_law_noted") fG) nZ (M6 (is.map D.int)) ⟨[],0⟩ k)= .val (.bool true) st
theorem Go(n:Nat){is:List Int}(hl:is.length≤63):Oj n is:=by
 obtain⟨m,hm,e0⟩:=yJ (n+16) hl
 have h6:m≤6:=by rcases hm with rfl|rfl|rfl|rfl<;>decide
 obtain⟨Q,hQ,hok,e1⟩:=yI (n+16) (is.map D.int) (is:=is.take 31) (List.length_take_le ..) h6
 generalize jd ((is.take 31).map D.int) (1+5*m)=st at e1
 obtain⟨L,P,e2⟩:=B5 (n+16) (is.map D.int) hm hQ hok st
 obtain⟨nu,rfl,hw,parts⟩:=P
 have hz:=bU (f:=frz [] 12) (su λ p hp=>(nu.ok.parts p hp).kind) (gL _)
 obtain⟨N,G,X,e3⟩:=rY (n:=n+8) nu.ok st hz
 obtain⟨ss,so,e4⟩:=tY (n+16) nu X parts st (bU (qc _) (bU (ae (Option.map D.lst) (gf (f:=frz [] 11) (g:=dS) (λ _=>rfl) _)) (bU (DH X.gl) (gL _))))
 rw[fz]at e4
 obtain⟨H,orc,hne,g,hH,ho,ho2⟩:=yj n nu hw
 obtain⟨F,M,e5⟩:=Dr (n+16) nu so st
 obtain⟨U,hU,e7⟩:=xJ (n+16) hm (H.map (·.1)) (ad (aM (aG ..)) hH) st
 obtain⟨il,I,e8⟩:=yv (n:=n+7) nu.ok st hz
 unfold Oj
 refine⟨orc,ho,st,λ k=>?_⟩
 have e:br (C5 aP (ay aP (n+17)) 696 orc (S "_law_noted") fG) nZ (M6 (is.map D.int)) ⟨[],0⟩ k=ej (ay aP (n+17)) orc 0 3 (M6 (is.map D.int)) ⟨[],0⟩ λ loc st=>ej (ay aP (n+17)) orc 3 1 loc st λ loc st=>ej (ay aP (n+17)) orc 4 1 loc st (H8 (n+17) orc k):=by kernel_rfl
 exact(ae af e).trans ((e0 orc _).trans ((e1 orc _).trans ((e2 orc _).trans (B4 n (y:=⟨is.map D.int,Q,L,N,G,ss,H,F,U,il⟩) nu hz X so hne g hH e3 e4 (ho2 st) M e5 hU e7 I e8 k))))
end
section
open PySem.Spec
variable{α:Type}{h₁:Heap}
noncomputable def IE:Data→Option FuncData
 | .func fd=>some fd
 |_=>none
noncomputable def CX(K:Frag)(a:Addr):Option FuncData:=(K.lookup a).bind λ o=>IE o.data
theorem CR{t:Data}{fd:FuncData}(h:IE t=some fd):t= .func fd:=by
 induction t using Data.casesOn with
 |func g=>exact ae Data.func (an h)
 |_=>exact nsK h
theorem bind_some{β:Type}{o:Option α}{f:α→Option β}{b:β}(h:o.bind f=some b):∃a,o=some a∧f a=some b:=by
 induction o using Option.casesOn with
 |none=>exact nsK h
 |some a=>exact⟨a,rfl,h⟩
abbrev Jo(fd:FuncData):Prop:=fd.scope.kind= .function∧fd.scope.isCoroutine=false∧fd.scope.isGenerator=false∧fd.closure=[]∧fd.globals=mainGlobals∧fd.builtins=builtinsNs
abbrev FT:=Addr×(Fn×oY)
noncomputable def ckF(K:Frag)(p:FT):Bool:=(CX K p.1).elim false λ fd=>decide (Jo fd)&&codeIn K fd.code fd.qualname
noncomputable def bdF(K:Frag)(p:FT):Option (FuncBody×cr):=(CX K p.1).map λ fd=>(fd.body,fd.scope.names)
noncomputable def biF(K:Frag)(S:Setting)(vs:List Value)(p:FT):Option (List (Str×Value)):=(CX K p.1).bind λ fd=>peek K S (bindArgs fd ⟨vs.take p.2.1.params.length,[]⟩)
noncomputable def OF(p:FT):Bool:=mZ p.2.1.ns&&(wO p.2.1.ns p.2.1.params&&Nat.ble p.2.1.params.length 6)
noncomputable def Jn(f:Nat→Value):List Value:=[f 0,f 1,f 2,f 3,f 4,f 5]
theorem O8{vs:List Value}(h:vs.length≤6):vs=(Jn λ i=>vs.getD i .none).take vs.length:=by
 have e:vs=((List.range 6).map λ i=>vs.getD i .none).take vs.length:=List.ext_getElem (by rw[List.length_take,aG,List.length_range,Nat.min_eq_left h]) λ i h1 h2=>by
  rw[List.getElem_take,List.getElem_map,List.getElem_range,List.getD_eq_getElem?_getD,bz h1]
  rfl
 exact e
structure HQ(K:Frag)(l:List FT):Prop where
 ck:l.all (ckF K)=true
 bd:l.map (bdF K)=l.map λ p=>some (.stmts p.2.1.body,p.2.1.ns)
 bi:∀S f,l.map (biF K S (Jn f))=l.map λ p=>some (p.2.1.params.zip ((Jn f).take p.2.1.params.length))
theorem vP{K:Frag}{l:List FT}(KX:K.In h₁)(h:HQ K l)(hn:l.all OF=true){p:FT}(hp:p∈l):HR h₁ p.1 p.2.1∧rN p.2.1.ns p.2.1.params:=by
 have h1:=nq.mp h.ck p hp
 have h2:=List.map_inj_left.mp h.bd p hp
 have h3:=aE.mp (nq.mp hn p hp)
 have h4:=aE.mp h3.2
 have h6:=λ S f=>List.map_inj_left.mp (h.bi S f) p hp
 refine⟨?_,FB h3.1 h4.1⟩
 unfold ckF at h1
 unfold bdF at h2
 unfold biF at h6
 induction hf:CX K p.1 using Option.casesOn with
 |none=>
  rw[hf]at h1
  exact ftK h1
 |some fd=>
  rw[hf]at h1 h2 h6
  have h1:=aE.mp h1
  have h2:=eX (an h2)
  obtain⟨o,ho,hd⟩:=bind_some hf
  obtain⟨a1,a2,a3,a4,a5,a6⟩:=bP h1.1
  refine⟨o,fd,KX _ _ ho,CR hd,h2.1,h2.2,a1,a2,a3,a4,a5,a6,codeRec_of KX h1.2,λ vs hv s hs=>?_⟩
  have hvs:=O8 (hv▸bu h4.2)
  rw[hv]at hvs
  exact kp_binds (λ a o h=>hs _ _ (KX _ _ h)) λ S=>hvs▸h6 S _
theorem iT{a:Addr}{v:α}(l:List (Addr×α)):th l a=some v→(a,v)∈l:=by
 induction l with
 |nil=>exact λ h=>nsK h
 |cons p r ih=>
  intro h
  have h:cond (Nat.beq p.1 a) (some p.2) (th r a)=some v:=h
  induction hb:Nat.beq p.1 a using Bool.casesOn with
  |true=>
   rw[hb]at h
   exact Nat.eq_of_beq_eq_true hb▸an h▸.head _
  |false=>
   rw[hb]at h
   exact .tail _ (ih h)
theorem jl{x:Str}{v:α}(l:List (Str×α)):bD l x=some v→(x,v)∈l:=by
 induction l with
 |nil=>exact λ h=>nsK h
 |cons p r ih=>
  intro h
  have h:=(b9 ..).symm.trans h
  by_cases e:p.1=x
  ·exact e▸an ((aZ e).symm.trans h)▸.head _
  ·exact .tail _ (ih ((aI e).symm.trans h))
abbrev FV:=Option (Option Value)
noncomputable def NQ(K:Frag)(C:Addr):Option Bool×FV×FV×FV×Bool:=((clsIn K C).map (·.hasDict),findIn K (.ref C) "__getattribute__",findIn K (.ref C) "__getattr__",findIn K (.ref C) "__setattr__",plainOver K C)
noncomputable def NP:Option Bool×FV×FV×FV×Bool:=(some true,some (some (.builtin "object.__getattribute__")),some none,some (some (.builtin "object.__setattr__")),true)
theorem K9{K:Frag}{C:Addr}(KX:K.In h₁)(h:NQ K C=NP):o5 h₁ K C:=by
 obtain⟨cd,h1,h2⟩:=bL.mp (ae (·.1) h)
 exact⟨KX,⟨cd,h1,h2⟩,ae (·.2.1) h,ae (·.2.2.1) h,ae (·.2.2.2.1) h,ae (·.2.2.2.2) h⟩
noncomputable def inT(K:Frag)(q:Addr×Addr):Bool×FV×Option Value×FV:=(makesIn K q.1,findIn K (.ref q.1) "__init__",typeIn K (.ref q.2),specialIn K (.ref q.1) "__call__")
noncomputable def inV(q:Addr×Addr):Bool×FV×Option Value×FV:=(true,some (some (.ref q.2)),some (.type "function"),some (some (.builtin "type.__call__")))
noncomputable def mtT(K:Frag)(q:Str×Addr):FV×Option Value:=(findIn K (.ref 646) q.1,typeIn K (.ref q.2))
noncomputable def mtV(q:Str×Addr):FV×Option Value:=(some (some (.ref q.2)),some (.type "function"))
noncomputable def atT(K:Frag)(C:Addr)(q:Str×Unit):FV×FV:=(findIn K (.ref C) q.1,takerIn K C q.1)
noncomputable def atL(K:Frag)(p:Addr×List (Str×Unit)):=p.2.map (atT K p.1)
noncomputable def Pd:List (Str×Addr):=[(S "worth",608),(S "whole",615),(S "value_of_name",622),(S "store",629),(S "plus",636),(S "go",643)]
noncomputable def OJ:List Addr:=[213,452,646]
structure Oz(K:Frag):Prop where
 c:OJ.map (NQ K)=OJ.map λ _=>NP
 i:aP.clss.map (inT K)=aP.clss.map inV
 m:Pd.map (mtT K)=Pd.map mtV
 a:aP.attrs.map (atL K)=aP.attrs.map λ p=>p.2.map λ _=>(some none,some none)
 b:(specialIn K (.ref 636) "__get__",takesIn K (.ref 636))=(some (some (.builtin "function.__get__")),some false)
theorem Hp{K:Frag}{C:Addr}{cd:ClassData}(h:clsIn K C=some cd):∃o,K.lookup C=some o∧o.data= .cls cd:=by
 unfold clsIn at h
 induction hk:K.lookup C using Option.casesOn with
 |none=>
  rw[hk]at h
  exact nsK h
 |some o=>
  rw[hk]at h
  refine⟨o,rfl,?_⟩
  obtain⟨c,d,dt,sl⟩:=o
  induction dt using Data.casesOn with
  |cls x=>exact ae Data.cls (an h)
  |_=>exact nsK h
theorem Jh{prog:Program}{w:World}{K:Frag}(KX:K.In h₁)(hf:HQ K tu)(hn:tu.all OF=true)(hc:Oz K)(hg:∀x d,bD aP.glob x=some d→rR prog w h₁ x d):IR prog w h₁ aP:=by
 have cl {C:Addr} (h:C∈OJ):o5 h₁ K C:=K9 KX (List.map_inj_left.mp hc.c C h)
 have ms {name:Str} {fa:Addr} (h:(name,fa)∈Pd):findIn K (.ref 646) name=some (some (.ref fa))∧typeIn K (.ref fa)=some (.type "function"):=eX (List.map_inj_left.mp hc.m _ h)
 have hl:(646:Addr)∈OJ:= .tail _ (.tail _ (.head _))
 refine⟨hg,λ fa f h=>vP KX hf hn (p:=(fa,f)) (iT _ h),λ C name fa h=>?_,λ C name u h=>?_,λ C fI h=>?_,λ C name fa h=>?_⟩
 ·obtain⟨l,h1,h2⟩:=bind_some h
  obtain⟨rfl,rfl⟩:=eX (aC.mp (iT _ h1))
  have q:=ms (jl _ h2)
  exact⟨K,cl hl,q.1,q.2⟩
 ·obtain⟨l,h1,h2⟩:=bind_some h
  have hm:=iT _ h1
  have q:=eX (List.map_inj_left.mp (List.map_inj_left.mp hc.a _ hm) _ (jl _ h2))
  exact⟨K,cl (fP (f:=Prod.fst) hm),q.1,q.2⟩
 ·have hm:=iT _ h
  have q:=List.map_inj_left.mp hc.i _ hm
  have c:=cl (fP (f:=Prod.fst) hm)
  obtain⟨cd,e,_⟩:=c.cd
  obtain⟨o,ho,hd⟩:=Hp e
  exact⟨K,c,ae (·.1) q,ae (·.2.1) q,ae (·.2.2.1) q,ae (·.2.2.2) q,o,cd,KX _ _ ho,hd⟩
 ·obtain⟨l,h1,h2⟩:=bind_some h
  obtain⟨rfl,rfl⟩:=eX (aC.mp (iT _ h1))
  obtain⟨rfl,rfl⟩:=eX (aC.mp (jl _ h2))
  have q:=ms (name:=S "plus") (fa:=636) (.tail _ (.tail _ (.tail _ (.tail _ (.head _)))))
  have b:=eX hc.b
  exact⟨K,cl hl,q.1,q.2,b.1,b.2,by decide+kernel⟩
theorem CW:tu.all OF=true:=by kernel_rfl
end
section
open PySem.Spec
variable{v:Value}{x:Str}{t:Data}{K:Frag}
noncomputable def Mf(s:String):Value→Bool
 | .type n=>n==s
 |_=>false
theorem Ai{s:String}(h:Mf s v=true):v= .type s:=by
 induction v using Value.casesOn with
 |type n=>exact ae Value.type (eq_of_beq h)
 |_=>exact ftK h
noncomputable def EG:Value→Option Str
 | .str x _=>some x
 |_=>none
theorem wy(h:EG v=some x):∃t,v= .str x t:=by
 induction v using Value.casesOn with
 |str y t=>exact⟨t,ae (Value.str · t) (an h)⟩
 |_=>exact nsK h
noncomputable def Jp:Data→Option (Array Value)
 | .seq xs _=>some xs
 |_=>none
theorem EV{xs:Array Value}(h:Jp t=some xs):∃n,t= .seq xs n:=by
 induction t using Data.casesOn with
 |seq ys n=>exact⟨n,ae (Data.seq · n) (an h)⟩
 |_=>exact nsK h
noncomputable def NJ:Data→Option (Array DictEntry)
 | .dict es _=>some es
 |_=>none
theorem Hf{es:Array DictEntry}(h:NJ t=some es):∃n,t= .dict es n:=by
 induction t using Data.casesOn with
 |dict ys n=>exact⟨n,ae (Data.dict · n) (an h)⟩
 |_=>exact nsK h
noncomputable def Mh(o:Obj):Option (Array Value):=cond (Mf "tuple" o.cls) (Jp o.data) none
noncomputable def O6(K:Frag)(f:Value→Option D):Value→Option D
 | .int i _=>some (.int i)
 | .str x _=>some (.str x)
 | .ref a=>(K.lookup a).bind λ o=>(Mh o).bind λ xs=>(cq f xs.toList).map D.tup
 |_=>none
noncomputable def MG(K:Frag):Nat→Value→Option D
 |0=>O6 K λ _=>none
 |n+1=>O6 K (MG K n)
noncomputable def enO(K:Frag)(e:DictEntry):Option (Str×D):=(EG e.key).bind λ x=>(MG K 4 e.val).map λ d=>(x,d)
noncomputable def Hi(o:Obj):Option (Array DictEntry):=cond (Mf "dict" o.cls&&(o.dict.isNone&&o.slots.isEmpty)) (NJ o.data) none
noncomputable def FE:List Str→Bool
 |[]=>true
 |x::r=>!r.any (c7 x)&&FE r
noncomputable def K0(K:Frag)(v:Value):Option (List (Str×D)):=(uI v).bind λ a=>cond (a==sysModules) none ((K.lookup a).bind λ o=>(Hi o).bind λ en=>(cq (enO K) en.toList).bind λ es=>cond (FE (es.map (·.1))) (some es) none)
noncomputable def hsV(K:Frag)(v:Value):Option (List Int):=(uI v).bind λ a=>(K.lookup a).bind λ o=>(Hi o).map λ en=>en.toList.map (·.hash)
noncomputable def Nr(w:World)(es:List (Str×D)):List Int:=es.map λ p=>hashStr w p.1
noncomputable def Jl(p:Str×D):D×D:=(.str p.1,p.2)
theorem FC(l:List Str):FE l=true→l.Nodup:=by
 induction l with
 |nil=>exact λ _=>.nil
 |cons x r ih=>
  intro h
  have h:=aE.mp h
  exact bF.mpr ⟨λ hx=>tfK (List.any_eq_true.mpr ⟨x,hx,lu x⟩▸mG h.1),ih h.2⟩
section
variable{prog:Program}{w:World}{K:Frag}{c:dW}
theorem wF(hK:∀a o,K.lookup a=some o→c.h.get? a=some o∧¬c.U a){f:Value→Option D}(hf:∀v,b6 (b8 prog w c v) (f v))(v:Value):b6 (b8 prog w c v) (O6 K f v):=by
 induction v using Value.casesOn with
 |int i t=>exact b8.int i t
 |str x t=>exact b8.str x t
 |ref a=>
  refine .bnd λ o ho=>.bnd λ xs hx=>.map ?_
  have g:=hK a o ho
  unfold Mh at hx
  induction hb:Mf "tuple" o.cls using Bool.casesOn with
  |false=>
   rw[hb]at hx
   exact nsK hx
  |true=>
   rw[hb]at hx
   obtain⟨n,hd⟩:=EV hx
   exact(gK (P:=bH prog w c) .nil (λ x r=>(hf x).mono λ d h s hs=>.cons h hs) xs.toList).mono λ ds h=>.tup g.1 (Ai hb) hd g.2 h
 |_=>exact ag
theorem wI(hK:∀a o,K.lookup a=some o→c.h.get? a=some o∧¬c.U a)(n:Nat):∀v,b6 (b8 prog w c v) (MG K n v):=by
 induction n with
 |zero=>exact wF hK λ _=>ag
 |succ n ih=>exact wF hK ih
inductive Ql(prog:Program)(w:World)(c:dW)(en:List DictEntry)(es:List (Str×D)):Prop
 |mk (kvs:List (cv×Value)) (h1:Pairs (bV prog w) en kvs) (h2:dg prog w c kvs (es.map Jl)) (h3:kvs.map (·.1)=es.map λ p=>.inr p.1) (h4:∀e∈en,∃k,(bV prog w).is k e.key=true∧e.hash=(bV prog w).hash k)
theorem Ha(hK:∀a o,K.lookup a=some o→c.h.get? a=some o∧¬c.U a)(en:List DictEntry):∀es,cq (enO K) en=some es→en.map (·.hash)=Nr w es→Ql prog w c en es:=by
 induction en with
 |nil=>
  intro es h _
  obtain rfl:=an h
  exact⟨[],.nil,.nil,rfl,λ _ h=>absurd h aQ⟩
 |cons e en ih=>
  intro es h hh
  obtain⟨y,s,h1,h2,rfl⟩:=lI h
  obtain⟨x,h3,h4⟩:=bind_some h1
  obtain⟨d,h5,rfl⟩:=bL.mp h4
  have hh:=List.cons.inj hh
  obtain⟨kvs,a1,a2,a3,a4⟩:=ih s h2 hh.2
  obtain⟨t,ht⟩:=wy h3
  have hi:(bV prog w).is (.inr x) e.key=true:=ht▸beq_self_eq_true x
  exact⟨(.inr x,e.val)::kvs,.cons hi rfl a1,.cons (aT (wI hK 4 e.val) h5) a2,ae (Sum.inr x::·) a3,bv.mpr ⟨⟨_,hi,hh.1⟩,a4⟩⟩
theorem Hh(hK:∀a o,K.lookup a=some o→c.h.get? a=some o∧¬c.U a){v:Value}{es:List (Str×D)}(q:K0 K v=some es)(hh:hsV K v=some (Nr w es)):b8 prog w c v (.dct (es.map Jl)):=by
 obtain⟨a,h1,q1⟩:=bind_some q
 obtain rfl:=mU h1
 induction hl:(a==sysModules)using Bool.casesOn with
 |true=>
  rw[hl]at q1
  exact nsK q1
 |false=>
  rw[hl]at q1
  obtain⟨o,ho,q2⟩:=bind_some q1
  obtain⟨en,he,q3⟩:=bind_some q2
  obtain⟨fs,hm,q4⟩:=bind_some q3
  induction hn:FE (fs.map (·.1))using Bool.casesOn with
  |false=>
   rw[hn]at q4
   exact nsK q4
  |true=>
   rw[hn]at q4
   obtain rfl:=an q4
   have e2:some (en.toList.map (·.hash))=some (Nr w fs):=by
    rw[←hh]
    show _=(K.lookup a).bind _
    rw[ho]
    show _=(Hi o).map _
    rw[he]
    rfl
   obtain⟨kvs,a1,a2,a3,a4⟩:=Ha (prog:=prog) hK en.toList fs hm (an e2)
   have g:=hK a o ho
   unfold Hi at he
   induction hb:(Mf "dict" o.cls&&(o.dict.isNone&&o.slots.isEmpty))using Bool.casesOn with
   |false=>
    rw[hb]at he
    exact nsK he
   |true=>
    rw[hb]at he
    obtain⟨n,hd⟩:=Hf he
    have b:=aE.mp hb
    have b2:=aE.mp b.2
    exact .dct ⟨o,en,n,g.1,⟨Ai b.1,Option.isNone_iff_eq_none.mp b2.1,Array.isEmpty_iff.mp b2.2⟩,hd,λ e he=>a4 e (Array.mem_toList_iff.mpr he),a1,by
     rw[a3]
     exact List.pairwise_map.mpr ((List.pairwise_map.mp (FC _ hn)).imp λ h e=>h (Sum.inr.inj e))⟩ g.2 a2 hl
end
abbrev GT:=Str×D
noncomputable def biG(K:Frag)(p:GT):Option (Option Value)×Option D×Bool:=(nsIn K mainGlobals p.1,(bootBuiltins p.1).map D.val,c7 p.1 "__name__")
noncomputable def Nu(K:Frag)(x:Str):Option Value:=(nsIn K mainGlobals x).bind id
noncomputable def glV(K:Frag)(x:Str):Option D:=(Nu K x).bind λ v=>(MG K 5 v).elim ((K0 K v).map λ es=>.dct (es.map Jl)) some
noncomputable def GL:List GT:=ii.take 14
noncomputable def KC:List GT:=(ii.drop 14).take 62
noncomputable def CN:List GT:=(ii.drop 14).drop 62
structure IW(w:World)(K:Frag):Prop where
 b:GL.map (biG K)=GL.map λ p=>(some none,some p.2,false)
 r:KC.map (λ p=>(Nu K p.1).map D.val)=KC.map λ p=>some p.2
 d:CN.map (λ p=>glV K p.1)=CN.map λ p=>some p.2
 h:CN.map (λ p=>(Nu K p.1).bind (hsV K))=CN.map λ p=>(Nu K p.1).bind λ v=>(K0 K v).map (Nr w)
theorem CL(h:Nu K x=some v):nsIn K mainGlobals x=some (some v):=by
 obtain⟨o,h1,h2⟩:=bind_some h
 exact h1.trans (ae some h2)
theorem GH{prog:Program}{w:World}{h₁:Heap}{mg mb:SV}(KX:K.In h₁)(g:h₁.Ns mainGlobals mg)(b:h₁.Ns builtinsNs mb)(hb:∀x:Str,x≠"__name__"→mb x=bootBuiltins x)(G:IW w K)(x:Str)(d:D)(h:bD aP.glob x=some d):rR prog w h₁ x d:=by
 have hm:(x,d)∈GL++(KC++CN):=((List.take_append_drop 14 ii).symm.trans (ae (GL++·) (List.take_append_drop 62 (ii.drop 14)).symm))▸jl ii h
 rcases ca.mp hm with hm|hm
 ·have q:=List.map_inj_left.mp G.b _ hm
  obtain⟨v,h3,e⟩:=bL.mp (ae (·.2.1) q)
  have e:D.val v=d:=e
  exact .b v (λ c _=>e▸.val v) mg mb g (mg_none_of KX g (ae (·.1) q)) b ((hb x λ e=>tfK ((e▸lu _:c7 x "__name__"=true).symm.trans (ae (·.2.2) q))).trans h3)
 ·rcases ca.mp hm with hm|hm
  ·obtain⟨v,h2,e⟩:=bL.mp (List.map_inj_left.mp G.r _ hm)
   have e:D.val v=d:=e
   exact .g v (λ c _=>e▸.val v) mg g (mg_of KX g (CL h2))
  ·obtain⟨v,hv,h2⟩:=bind_some (List.map_inj_left.mp G.d _ hm)
   refine .g v (λ c hc=>?_) mg g (mg_of KX g (CL hv))
   have hK (a:Addr) (o:Obj) (e:K.lookup a=some o):=hc a o (KX _ _ e)
   have h3:=List.map_inj_left.mp G.h _ hm
   rw[hv]at h3
   induction hr:MG K 5 v using Option.casesOn with
   |some d'=>
    rw[hr]at h2
    obtain rfl:=an h2
    exact aT (wI hK 5 v) hr
   |none=>
    rw[hr]at h2
    obtain⟨es,h4,rfl⟩:=bL.mp h2
    exact Hh hK h4 (h3.trans (ae (Option.map (Nr w)) h4))
end
section
open PySem.Spec
variable{h:Heap}
noncomputable def uU(K:Frag)(a:Addr):Obj:=(K.lookup a).getD default
noncomputable def La(K:Frag):ClassData:=(clsIn K 123).getD default
noncomputable def PO(K:Frag):FuncData:=(CX K 120).getD default
noncomputable def Mw(K:Frag)(i:Nat):Option Value:=((uU K 123).slots.toList[i]?).bind id
noncomputable def PN:Data→Array Value
 | .fields vs=>vs
 |_=> #[]
noncomputable def po(l a b:Nat):Pos:=⟨l,a,l,b⟩
noncomputable def poL:List Pos:=[po 114 8 13,po 114 8 15,po 114 8 24,po 114 25 29,po 114 8 30,po 114 8 30,po 115 8 12,po 115 8 17,po 115 20 24,po 115 8 24,po 116 8 12,po 116 8 17,po 116 20 24,po 116 8 24]
noncomputable def vsK(K:Frag):Array Value:=PN (uU K 119).data
noncomputable def P0(K:Frag)(mg mb:SV)(tf:Tok):BS where
 nm:=(La K).name
 q:=(La K).qualname
 bs:=(La K).bases
 sn:=(La K).slotNames
 sub:=(La K).subclasses
 ab:=(La K).abstract
 col:=(La K).collection
 dd:=(uU K 123).dict
 k0:=Mw K 0
 k1:=Mw K 1
 k2:=Mw K 2
 k3:=Mw K 3
 k5:=Mw K 5
 mg:=mg
 mb:=mb
 oc:=uU K 119
 od:=(uU K 120).dict
 osl:=(uU K 120).slots
 fd:=PO K
 vs:=vsK K
 file:=((vsK K)[2]?.bind EG).getD default
 tf:=tf
 qs:=λ i=>poL[i]?.getD default
 ar:=(PO K).params.args.headD ⟨default,none,default⟩
 cc:=119
 td:=((Jp (uU K (((uI (PO K).defaults)).getD 0)).data).bind (·[0]?)).getD default
noncomputable def ncB(l:cr):Bool:=l.all λ x=>!decide (x.2= .cell)
structure BEK(prog:Program)(K:Frag)(s:BS):Prop where
 cls:K.lookup 123=some s.ob
 mro:(clsIn K 123).map (·.mro)=some (.ref 123::lS)
 ns:nsOkIn K 122=true
 own:(nsIn K 122 "__init__",nsIn K 122 "code",nsIn K 122 "told",nsIn K 122 "__setattr__",nsIn K 122 "__getattribute__",nsIn K 122 "__getattr__")=(some (some (.ref 120)),some none,some none,some none,some none,some none)
 alo:alongIn K "__init__" lS=some (some (.builtin "Exception.__init__"))
 opq:nsIn K cStatics "thirdparty.any"=some none
 g2:nsIn K mainGlobals "super"=some none
 g5:nsIn K mainGlobals "BasicError"=some (some (.ref 123))
 g4:bootBuiltins "super"=some (.type "super")
 cel:(K.lookup 107).map (·.data)=some (.cell (some (.ref 123)))
 f1:K.lookup 120=some ⟨.type "function",s.od,.func s.fd,s.osl⟩
 f2:s.fd.body= .stmts (ID s.qs)
 f3:((s.qs 2).endLine==(s.qs 4).line)=true
 f4:codeIn K s.fd.code s.fd.qualname=true
 f5:s.fd.closure=[(("__class__":Str),(107:Addr))]
 f6:(s.fd.globals,s.fd.builtins)=(mainGlobals,builtinsNs)
 f8:ncB s.fd.scope.names=true
 f9:(s.fd.scope.names.lookup ("super":Str),s.fd.scope.names.lookup ("__class__":Str),s.fd.scope.names.lookup ("self":Str),s.fd.scope.names.lookup ("code":Str),s.fd.scope.names.lookup ("told":Str))=(some .globalImplicit,some .free,some .local,some .local,some .local)
 fe:(s.fd.scope.isCoroutine,s.fd.scope.isGenerator,s.fd.scope.kind)=(false,false,.function)
 fh:(s.fd.params.posonlyargs++s.fd.params.args).head?=some s.ar
 fi:s.ar.arg= "self"
 fj:s.fd.code= .ref s.cc
 fk:K.lookup s.cc=some s.oc
 fl:s.oc.data= .fields s.vs
 fm:s.vs[2]?.bind EG=some s.file
 fn:((prog.main.file:Str)==s.file)=true
 fo:∀U (a b:Value),peek K U (bindArgs s.fd ⟨[a,b],[]⟩)=some [(("self":Str),a),(("code":Str),b),(("told":Str),s.td)]
 top:(prog.main.scope.names.lookup ("super":Str)).isSome=false
theorem lE{K:Frag}{a:Addr}{m:SV}{n:Str}{r:Option Value}(X:K.In h)(G:h.Ns a m)(e:nsIn K a n=some r):m n=r:=by
 obtain⟨o,es,ep,ho,hd,_,hf⟩:=G
 unfold nsIn at e
 induction hk:K.lookup a using Option.casesOn with
 |none=>
  rw[hk]at e
  exact nsK e
 |some o'=>
  rw[hk]at e
  obtain rfl:=an (ho.symm.trans (X _ _ hk))
  obtain⟨c,d,dt,sl⟩:=o
  obtain rfl:=hd
  rw[←hf]
  unfold nsFind findBy
  rw[←Array.find?_toList]
  dsimp only at e
  generalize es.toList.find? _=q at e
  induction q using Option.casesOn with
  |some en=>exact an e
  |none=>
   by_cases c:es.toList.any (·.refKey)=true
   ·exact nsK ((aZ c).symm.trans e)
   ·exact an ((aI c).symm.trans e)
theorem Lh{prog:Program}{w:World}{K:Frag}{mg mb:SV}(KX:K.In h)(g:h.Ns mainGlobals mg)(b:h.Ns builtinsNs mb)(hb:∀x:Str,x≠"__name__"→mb x=bootBuiltins x)(lim:h.NoLimit)(B:∀tf,BEK prog K (P0 K mg mb tf)):I0 prog w h:=by
 obtain⟨v,hv,e⟩:=bind_some (B 0).fm
 obtain⟨tf,rfl⟩:=wy e
 have B:=B tf
 have N:=Heap.Ns.of_isNs (isNs_of_in KX B.ns)
 have o:=B.own
 have f:=B.f9
 have fe:=B.fe
 have f6:=eX B.f6
 obtain⟨oc,h1,h2⟩:=bL.mp B.cel
 exact⟨⟨K,_,P0 K mg mb tf,KX,KX _ _ B.cls,B.mro,N,lE KX N (ae (·.1) o),lE KX N (ae (·.2.1) o),lE KX N (ae (·.2.2.1) o),lE KX N (ae (·.2.2.2.1) o),lE KX N (ae (·.2.2.2.2.1) o),lE KX N (ae (·.2.2.2.2.2) o),B.alo,B.opq,g,mg_none_of KX g B.g2,b,(hb _ (by decide+kernel)).trans B.g4,⟨oc,KX _ _ h1,h2⟩,B.f1,B.f2,B.f3,codeRec_of KX B.f4,B.f5,f6.1,f6.2,λ x hx=>of_decide_eq_false (mG (nq.mp B.f8 x hx)),
  ae (·.1) f,ae (·.2.1) f,ae (·.2.2.1) f,ae (·.2.2.2.1) f,ae (·.2.2.2.2) f,ae (·.1) fe,ae (·.2.1) fe,ae (·.2.2) fe,B.fh,B.fi,B.fj,KX _ _ B.fk,B.fl,hv,B.fn,B.fo,B.top,lim⟩,⟨mg,g,mg_of KX g B.g5⟩⟩
end
section
open PySem.Spec
noncomputable def B6:List FT:=[(696,(bj 106,.shared)),(701,(bj 107,.shared))]
theorem qf:B6.all OF=true:=by kernel_rfl
structure LK(prog:Program)(w:World)(K:Frag)(mg mb:SV):Prop where
 f:HQ K tu
 l:HQ K B6
 c:Oz K
 g:IW w K
 b:∀tf,BEK prog K (P0 K mg mb tf)
 n:nsIn K mainGlobals "law"=some (some (.ref 701))
theorem law_go{prog:Program}{w:World}{K:Frag}{s:Shared}{mg mb:SV}(KX:K.In s.heap)(L:LK prog w K mg mb)(g:s.heap.Ns mainGlobals mg)(b:s.heap.Ns builtinsNs mb)(hb:∀x:Str,x≠"__name__"→mb x=bootBuiltins x)(lim:s.heap.NoLimit)(sz:sysModules<s.heap.objs.size){fa:Addr}(hf:mg "law"=some (.ref fa)){l:Addr}{is:List Int}(hi:StatIn prog w s.heap (.ref l) (.lst (is.map D.int)))(hl:is.length≤63):
  codeAny (model prog w) callerA (.call (.ref fa) ⟨[.ref l],[]⟩) (λ r s'=>r= .ok (.ret (.bool true))∧(∀a o,s.heap.get? a=some o→s'.heap.get? a=some o)∧s'.os=s.os∧s'.gens=s.gens) s:=by
 obtain rfl:fa=701:=Value.ref.inj (an (hf.symm.trans (mg_of KX g L.n)))
 obtain⟨orc,ho,st,hall⟩:=Go 0 hl
 have f0:=vP (p:=(701,(bj 107,.shared))) KX L.l qf (.tail _ (.head _))
 have f6:=vP (p:=(696,(bj 106,.shared))) KX L.l qf (.head _)
 refine j6 (by decide+kernel) lim (λ _ _ h=>h) f0.1 f0.2 rfl λ env s₁ F r r1 _=>?_
 let X:Cx:=⟨prog,w,s.heap,callerA.deeper env,λ a=>a∈zP env,λ a=>a∈zP env⟩
 let p:Pt:=⟨s₁,λ _=>(0,0),⟨[],0⟩⟩
 have al:=λ b hb=>(F.alive b hb).symm
 have hm:env.locals∈zP env:= .head _
 have R:X.rep p:=⟨F.keep,F.loc▸(al _ hm).1,F.loc▸hm,λ _ _=>nsK,λ _ _=>nsK,λ _ _=>nsK,λ _ _=>nsK,λ _ _ _ _=>nsK,al⟩
 have dl:X.denL p [.ref l] [.lst (is.map D.int)]:= .cons (hi _ λ a o h=>⟨F.keep _ _ h,λ hu=>hu.elim (λ ⟨_,_,h,_⟩=>nsK h) λ hu=>absurd (al a hu).2 (Nat.not_le.mpr (az h))⟩) .nil
 have E:ax X p env (M6 (is.map D.int)):=F.envAt X _ _ _ (λ _ h=>h) dl
 have rm:dP X aP (12+5):=⟨rfl,sz,Jh KX L.f CW L.c (GH KX g b hb L.g),lim,(by decide+kernel:callerA.depth+1+17<recursionLimit),(by decide+kernel:callerA.units+3+12*17+80<cLine)⟩
 have hX:D8 X aP 12 15 696 (bj 106) orc env:=⟨rm,Lh KX g b hb lim L.b,rfl,F.fr,F.loc,f6.1,f6.2,ho⟩
 have hb:=gU (G3 (y:=S "_law_noted") hX (λ _ h=>h) F.names uf (aq _)) nZ _ _ R E
 refine hb (λ _ st=>.val .none st) _ (hall _) (λ h=>aD.noConfusion h) _ _ (λ q _ _ _ _ _ h=>aD.noConfusion h λ h _=>D.noConfusion h) λ v q d st' m _ hv ho=>?_
 obtain⟨rfl,rfl⟩:=aD.valI ho
 obtain rfl:v=_:=hv.inv
 obtain⟨_,_,rfl⟩:=F.only
 rw[r1]
 exact⟨rfl,m.rep.keep,m.os,m.gens⟩
end
end
end Mine
set_option Elab.async true
set_option tactic.hygienic true
open PySem PySem.Calls PySem.W PyProof.Rows PySem.Spec
set_option maxRecDepth 100000
set_option maxHeartbeats 8000000
namespace Mine
local macro_rules | `(command| universe $_x:ident) => do
  let mut r := #[]
  let more := ["heap_1_39", "heap_1_48", "heap_1_802", "view_1_40", "env_1_42"] ++ [50, 77, 151, 208, 255, 316, 399, 488, 542, 628, 676, 744, 800].map (fun i => "tree_1_" ++ toString i) ++ [52, 81, 153, 210, 257, 318, 401, 490, 544, 630, 678, 746].map (fun i => "sts_1_" ++ toString i)
  for n in ((List.range 800).map (fun i => "o_1_" ++ toString i) ++ more).map (Lean.Name.mkStr (.mkStr (.mkSimple "Mine") "hq")) ++ ["pw_sm0009_01", "rw_sm0009_01"].map (Lean.Name.mkStr (.mkStr (.mkSimple "PySem") "Challenge")) do
    r := r.push (← `(command| def $(Lean.mkIdent (.mkStr (.mkSimple "hq") ("tw" ++ toString n.hash))) := ()))
  return Lean.mkNullNode (r.map (·.raw))
noncomputable section
universe hq
end
theorem den_scr {prog : Program} {w : World} {P : Params} {h : Heap} {l : Addr} {vs : List Value} {is : List Int} {xs : List WData} (hL : h.IsList l vs.toArray) (w1 : Well P h (.ref l) (.list xs)) (hI : IntsAre vs is) : StatIn prog w h (.ref l) (.lst (is.map D.int)) := fun c hc => by
  obtain ⟨o, ho, h1, n, h2⟩ := hL
  cases w1 with
  | list h _ =>
    rw [ho] at h
    cases h
    have g := hc _ _ ho
    refine .lst (hn := rfl) g.1 rfl h2 g.2 ?_
    clear h2 h1 ho g
    induction hI with
    | nil => exact .nil
    | cons _ _ _ ih => exact .cons (.int _ _) ih
theorem hq : PySem.Challenge.rw_sm0009_01.Holds := by
  w_on
  o_law
  k_head
  case hw => w_witness2
  k_fill
  intro w s₀ s₁ mg mb G Y fa o pm cd doc dV kV ho hd hcd hD hmg hg args vals as hpre hlay hrd hwl hlo
  have KX := kIn_of Y
  refine Ground.open G ?_
  intro T B D TE TW
  try (refine guard_noD D (by decide +kernel) ?_; clear D)
  wrow_args hpre hlay hrd hwl hlo
  all_goals refine enter_call ?_
  all_goals w_top on
  all_goals try refine codeAny_mono ?_ (fun _ _ g => GoodW.toG g)
  rename_i is hs _ _ _ _ _ _ l vs _ hL _ w1 _ hI _ hc _
  refine codeAny_mono (law_go KX ?_ T.g T.b T.builtins T.nolimit (Nat.lt_trans (by decide) T.g.lt) hmg (den_scr hL w1 hI) (by omega)) ?_
  · refine ⟨⟨by kernel_rfl, by kernel_rfl, fun _ _ => by kernel_rfl⟩, ⟨by kernel_rfl, by kernel_rfl, fun _ _ => by kernel_rfl⟩, ?_, ?_, fun _ => ?_, by kernel_rfl⟩
    · constructor <;> kernel_rfl
    · constructor <;> kernel_rfl
    · constructor
      case fo => exact fun _ _ _ => by kernel_rfl
      all_goals kernel_rfl
  · rintro r s' ⟨rfl, h1, h2, h3⟩
    exact ⟨.inl ⟨_, _, _, rfl, fun _ => rfl, .bool true, by kernel_rfl, fun _ => ⟨List.nodup_nil, fun _ h => by cases h⟩⟩, h1, h2, h3.trans hg⟩
end Mine
theorem PySem.Challenge.cw_sm0009_01_holds : PySem.Challenge.rw_sm0009_01.Holds :=
  Mine.hq
